import PyProof.Rows.All
import Wide.All
import OpenK.AllK
import Wide.FinOn
import HandS.Base
import HandS.Call
import HandS.List
import HandS.Comp
import HandS.Ends
import HandS.Dict
import HandS.Iter
import HandS.Text
import HandS.Words
import HandS.WordsList
import HandS.ExcOwn
import HandS.Exc
import HandS.TupAny
import HandS.TupMul
import HandS.Wide
import HandS.IsInst
import HandS.Style
import KE.GoesEnum
import HandS.Defaults
import HandS.HeadEnd
import HandS.HeadHook1
import HandS.HeadHook2
import HandS.Head0
import HandS.Head1
import HandS.Head2
import HandS.HeadWalk
import KE.KStateDown
import PySem.Challenge.RW_everystart_k64_whole_settled_parts_and_u
set_option Elab.async false
set_option linter.all false
set_option maxRecDepth 100000
set_option maxHeartbeats 0
set_option autoImplicit false
namespace EV
open PySem PySem.Spec L2

/-- values, tuples by what they hold; ref: the place of a cell in the store -/
inductive Val where
  | non | bl (b : Bool) | int (i : Int) | str (x : Str) | ty (n : String) | tup (xs : List Val) | ref (r : Nat) | kl (ns : List Int)

inductive Cell where
  | lst (xs : List Val)
  | rol (xs : List Val)
  | dK (kvs : List (Key × Val))
  | dT (kvs : List (List Key × Val))
  | fK (kvs : List (Key × Val))
  | fT (kvs : List (List Key × Val))
  | ins (cn : Str) (fs : List (Str × Val))

abbrev Store := List Cell

/-- an object of the module: a tuple, a list -/
def KTup (K : PySem.W.Frag) (a : Addr) (xs : List V) : Prop := ∃ (o : Obj) (its : Array Value) (n : Nat), K.lookup a = some o ∧ o.cls = .type "tuple" ∧ o.data = .seq its n ∧ its.size ≤ sizeLine ∧ Vals xs its.toList
def KLst (K : PySem.W.Frag) (a : Addr) (xs : List V) : Prop := ∃ (o : Obj) (its : Array Value) (n : Nat), K.lookup a = some o ∧ o.cls = .type "list" ∧ o.dict = none ∧ o.data = .seq its n ∧ its.size ≤ sizeLine ∧ Vals xs its.toList
/-- a tuple that stands -/
def TupR (K : PySem.W.Frag) (H : Hp) (a : Addr) (vs : List V) : Prop := H a = some (.tup vs)
theorem TupR.sq {K : PySem.W.Frag} {H : Hp} {a : Addr} {vs : List V} (h : TupR K H a vs) : SqT K H a vs := SqT.of h

mutual
def VR (K : PySem.W.Frag) (H : Hp) (m : List Addr) : Val → V → Prop
  | .non, v => v = .non
  | .bl b, v => v = .bl b
  | .int i, v => v = .int i
  | .str x, v => v = .str x
  | .ty n, v => v = .ty n
  | .tup xs, v => ∃ a vs, v = .ref a ∧ TupR K H a vs ∧ VRs K H m xs vs
  | .kl ns, v => ∃ a, v = .ref a ∧ KLst K a (ns.map V.int)
  | .ref r, v => ∃ a, m[r]? = some a ∧ v = .ref a
def VRs (K : PySem.W.Frag) (H : Hp) (m : List Addr) : List Val → List V → Prop
  | [], vs => vs = []
  | x :: xs, vs => ∃ v r, vs = v :: r ∧ VR K H m x v ∧ VRs K H m xs r
end

/-- what may have changed: cells at m, new things -/
structure Ext (H H' : Hp) (m m' : List Addr) : Prop where
  pre : m <+: m'
  new : ∀ a, a ∈ m' → a ∉ m → H a = none
  oth : ∀ a o, H a = some o → a ∉ m → H' a = some o
  tup : ∀ a xs, H a = some (.tup xs) → H' a = some (.tup xs)
  frz : ∀ a o x, H a = some (.frz o x) → H' a = some (.frz o x)

theorem Ext.refl (H : Hp) (m : List Addr) : Ext H H m m := ⟨List.prefix_refl _, fun _ h n => absurd h n, fun _ _ h _ => h, fun _ _ h => h, fun _ _ _ h => h⟩
theorem Ext.trans {H H1 H2 : Hp} {m m1 m2 : List Addr} (a : Ext H H1 m m1) (b : Ext H1 H2 m1 m2) : Ext H H2 m m2 := by
  refine ⟨a.pre.trans b.pre, fun c h n => ?_, fun c o h n => ?_, fun c xs h => b.tup c xs (a.tup c xs h), fun c o x h => b.frz c o x (a.frz c o x h)⟩
  · by_cases hc : c ∈ m1
    · exact a.new c hc n
    · have e := b.new c h hc
      cases q : H c with
      | none => rfl
      | some o => rw [a.oth c o q n] at e; cases e
  · refine b.oth c o (a.oth c o h n) fun hc => ?_
    rw [a.new c hc n] at h; cases h

theorem TupR.mono {K : PySem.W.Frag} {H H' : Hp} {m m' : List Addr} {a : Addr} {vs : List V} (e : Ext H H' m m') (h : TupR K H a vs) : TupR K H' a vs := e.tup a vs h

theorem pre_get {α : Type} {m m' : List α} (h : m <+: m') {r : Nat} {a : α} (e : m[r]? = some a) : m'[r]? = some a := by
  obtain ⟨t, rfl⟩ := h
  rw [List.getElem?_append_left (List.getElem?_eq_some_iff.mp e).1]
  exact e

mutual
theorem VR.mono0 {K : PySem.W.Frag} {H H' : Hp} {m m' : List Addr} (hp : m <+: m') (ht : ∀ a xs, H a = some (.tup xs) → H' a = some (.tup xs)) : ∀ {x : Val} {v : V}, VR K H m x v → VR K H' m' x v
  | .non, _, h => h
  | .bl _, _, h => h
  | .int _, _, h => h
  | .str _, _, h => h
  | .ty _, _, h => h
  | .kl ns, _, h => by
    unfold VR at h ⊢
    exact h
  | .tup xs, v, h => by
    unfold VR at h ⊢
    obtain ⟨a, vs, h1, h2, h3⟩ := h
    exact ⟨a, vs, h1, ht _ _ h2, VRs.mono0 hp ht h3⟩
  | .ref r, v, h => by
    unfold VR at h ⊢
    obtain ⟨a, h1, h2⟩ := h
    exact ⟨a, pre_get hp h1, h2⟩
theorem VRs.mono0 {K : PySem.W.Frag} {H H' : Hp} {m m' : List Addr} (hp : m <+: m') (ht : ∀ a xs, H a = some (.tup xs) → H' a = some (.tup xs)) : ∀ {xs : List Val} {vs : List V}, VRs K H m xs vs → VRs K H' m' xs vs
  | [], _, h => h
  | x :: xs, vs, h => by
    unfold VRs at h ⊢
    obtain ⟨v, r, h1, h2, h3⟩ := h
    exact ⟨v, r, h1, VR.mono0 hp ht h2, VRs.mono0 hp ht h3⟩
end
theorem VR.mono {K : PySem.W.Frag} {H H' : Hp} {m m' : List Addr} (e : Ext H H' m m') {x : Val} {v : V} (h : VR K H m x v) : VR K H' m' x v := VR.mono0 e.pre e.tup h
theorem VRs.mono {K : PySem.W.Frag} {H H' : Hp} {m m' : List Addr} (e : Ext H H' m m') {xs : List Val} {vs : List V} (h : VRs K H m xs vs) : VRs K H' m' xs vs := VRs.mono0 e.pre e.tup h
theorem VRs.length {K : PySem.W.Frag} {H : Hp} {m : List Addr} : ∀ {xs : List Val} {vs : List V}, VRs K H m xs vs → vs.length = xs.length
  | [], _, h => by unfold VRs at h; subst h; rfl
  | x :: xs, vs, h => by
    unfold VRs at h
    obtain ⟨v, r, rfl, _, h3⟩ := h
    simp [h3.length]
end EV
namespace EV
open PySem PySem.Spec L2

/-! ### outcomes -/
inductive Res (α : Type) where
  | ok (a : α) (st : Store)
  | ex (cn : Str) (fs : List (Str × Val)) (st : Store)
  | bad
def Res.bind {α β : Type} (r : Res α) (f : α → Store → Res β) : Res β := match r with
  | .ok a st => f a st
  | .ex c fs st => .ex c fs st
  | .bad => .bad
@[simp] theorem Res.bind_ok {α β : Type} (a : α) (st : Store) (f : α → Store → Res β) : (Res.ok a st).bind f = f a st := rfl
@[simp] theorem Res.bind_ex {α β : Type} (c : Str) (fs : List (Str × Val)) (st : Store) (f : α → Store → Res β) : (Res.ex c fs st : Res α).bind f = .ex c fs st := rfl
@[simp] theorem Res.bind_bad {α β : Type} (f : α → Store → Res β) : (Res.bad : Res α).bind f = .bad := rfl
def ofO {α : Type} : Option (α × Store) → Res α
  | some (a, st) => .ok a st
  | none => .bad
@[simp] theorem ofO_some {α : Type} (p : α × Store) : ofO (some p) = .ok p.1 p.2 := by cases p; rfl
@[simp] theorem ofO_none {α : Type} : ofO (none : Option (α × Store)) = .bad := rfl

abbrev Slots := List (Option Val)
abbrev Sem1 (α : Type) := Slots → Store → Res α
abbrev Ev := Sem1 Val
abbrev Et := Sem1 Bool
abbrev El := Sem1 (List Val)
abbrev Op1 := Val → Store → Option (Val × Store)
abbrev Op2 := Val → Val → Store → Option (Val × Store)
abbrev OpN := List Val → Store → Option (Val × Store)

/-! ### expressions -/
def eVar (i : Nat) : Ev := fun ρ st => match ρ[i]? with
  | some (some v) => .ok v st
  | _ => .bad
def eC (v : Val) : Ev := fun _ st => .ok v st
def eOp1 (f : Op1) (a : Ev) : Ev := fun ρ st => (a ρ st).bind fun x st => ofO (f x st)
def eOp2 (f : Op2) (a b : Ev) : Ev := fun ρ st => (a ρ st).bind fun x st => (b ρ st).bind fun y st => ofO (f x y st)
def lNil : El := fun _ st => .ok [] st
def lCons (a : Ev) (l : El) : El := fun ρ st => (a ρ st).bind fun x st => (l ρ st).bind fun xs st => .ok (x :: xs) st
def eOpN (f : OpN) (l : El) : Ev := fun ρ st => (l ρ st).bind fun xs st => ofO (f xs st)
def eTup (l : El) : Ev := fun ρ st => (l ρ st).bind fun xs st => .ok (.tup xs) st
def eLst (l : El) : Ev := fun ρ st => (l ρ st).bind fun xs st => .ok (.ref st.length) (st ++ [.lst xs])
def eNewK : Ev := fun _ st => .ok (.ref st.length) (st ++ [.dK []])
def eNewT : Ev := fun _ st => .ok (.ref st.length) (st ++ [.dT []])
/-- a test out of an expression that gives a bool -/
def tOf (a : Ev) : Et := fun ρ st => (a ρ st).bind fun x st => match x with
  | .bl b => .ok b st
  | _ => .bad
def tAnd (a b : Et) : Et := fun ρ st => (a ρ st).bind fun x st => if x then b ρ st else .ok false st
def tOr (a b : Et) : Et := fun ρ st => (a ρ st).bind fun x st => if x then .ok true st else b ρ st
def tNot (a : Et) : Et := fun ρ st => (a ρ st).bind fun x st => .ok (!x) st
/-- and, or as values; all but the last are bools -/
def eAnd (a b : Ev) : Ev := fun ρ st => (a ρ st).bind fun x st => match x with
  | .bl true => b ρ st
  | .bl false => .ok (.bl false) st
  | _ => .bad
def eOr (a b : Ev) : Ev := fun ρ st => (a ρ st).bind fun x st => match x with
  | .bl false => b ρ st
  | .bl true => .ok (.bl true) st
  | _ => .bad
def eNot (a : Ev) : Ev := fun ρ st => (a ρ st).bind fun x st => match x with
  | .bl b => .ok (.bl !b) st
  | _ => .bad
def eIf (t : Et) (a b : Ev) : Ev := fun ρ st => (t ρ st).bind fun x st => if x then a ρ st else b ρ st

/-! ### tables -/
def dget {κ α : Type} [DecidableEq κ] (kvs : List (κ × α)) (k : κ) : Option α := (kvs.find? fun kv => decide (kv.1 = k)).map (·.2)
def dput {κ α : Type} [DecidableEq κ] (kvs : List (κ × α)) (k : κ) (v : α) : List (κ × α) :=
  if (kvs.any fun kv => decide (kv.1 = k)) = true then kvs.map (fun kv => if kv.1 = k then (kv.1, v) else kv) else kvs ++ [(k, v)]
def keyOf : Val → Option Key
  | .int i => some (.inl i)
  | .str x => some (.inr x)
  | _ => none
def keysOf : List Val → Option (List Key)
  | [] => some []
  | v :: vs => match keyOf v, keysOf vs with
    | some k, some ks => some (k :: ks)
    | _, _ => none

/-! ### operations -/
def fits (n : Nat) : Prop := n ≤ sizeLine
instance (n : Nat) : Decidable (fits n) := inferInstanceAs (Decidable (n ≤ sizeLine))

def oAdd : Op2 := fun x y st => match x, y with
  | .int i, .int j => some (.int (i + j), st)
  | .str a, .str b => if fits (a.length + b.length) then some (.str (a ++ b), st) else none
  | .tup xs, .tup ys => if fits (xs.length + ys.length) then some (.tup (xs ++ ys), st) else none
  | .ref r, .ref q => match st[r]?, st[q]? with
    | some (.lst xs), some (.lst ys) => if fits (xs.length + ys.length) then some (.ref st.length, st ++ [.lst (xs ++ ys)]) else none
    | _, _ => none
  | _, _ => none
def oSub : Op2 := fun x y st => match x, y with
  | .int i, .int j => some (.int (i - j), st)
  | _, _ => none
def small64 (i : Int) : Prop := -(2 ^ 64) < i ∧ i < 2 ^ 64
instance (i : Int) : Decidable (small64 i) := inferInstanceAs (Decidable (_ ∧ _))
def mulOk (i j : Int) : Prop := small64 i ∨ small64 j ∨ i.natAbs.log2 + j.natAbs.log2 < 1000000
instance (i j : Int) : Decidable (mulOk i j) := inferInstanceAs (Decidable (_ ∨ _))
def oMul : Op2 := fun x y st => match x, y with
  | .int i, .int j => if mulOk i j then some (.int (i * j), st) else none
  | .ref r, .int k => match st[r]? with
    | some (.lst xs) => if (-(2 ^ 63) ≤ k ∧ k < 2 ^ 63) ∧ fits (xs.length * k.toNat) then some (.ref st.length, st ++ [.lst (List.replicate k.toNat xs).flatten]) else none
    | _ => none
  | _, _ => none
def oFloorDiv : Op2 := fun x y st => match x, y with
  | .int i, .int j => if 0 < j ∧ j.natAbs.log2 < 9000 then some (.int (i / j), st) else none
  | _, _ => none
def oMod : Op2 := fun x y st => match x, y with
  | .int i, .int j => if 0 < j then some (.int (i % j), st) else none
  | _, _ => none
def oPow : Op2 := fun x y st => match x, y with
  | .int i, .int j => if (0 ≤ j ∧ j ≤ 1000000 ∧ i.natAbs < 2 ^ 64) then some (.int (i ^ j.toNat), st) else none
  | _, _ => none
def oNeg : Op1 := fun x st => match x with
  | .int i => some (.int (-i), st)
  | _ => none
/-- <, <=, >, >= of ints; < of texts -/
def oCmp (p : Int → Int → Bool) : Op2 := fun x y st => match x, y with
  | .int i, .int j => some (.bl (p i j), st)
  | _, _ => none
def oLt : Op2 := oCmp fun i j => decide (i < j)
def oLe : Op2 := oCmp fun i j => decide (i ≤ j)
def oGt : Op2 := oCmp fun i j => decide (j < i)
def oGe : Op2 := oCmp fun i j => decide (j ≤ i)
def flatVal : Val → Option V
  | .non => some .non
  | .bl b => some (.bl b)
  | .int i => some (.int i)
  | .str x => some (.str x)
  | _ => none
mutual
def Val.pd : Val → Option PyData
  | .non => some .none
  | .bl b => some (.bool b)
  | .int i => some (.int i)
  | .str x => some (.str x)
  | .tup xs => match pdAll xs with
    | some ds => some (.tuple ds)
    | none => none
  | _ => none
def pdAll : List Val → Option (List PyData)
  | [] => some []
  | x :: xs => match x.pd, pdAll xs with
    | some d, some ds => some (d :: ds)
    | _, _ => none
end
/-- data of a value, a list's one cell deep -/
def pdAt (st : Store) : Val → Option PyData
  | .ref r => match st[r]? with
    | some (.lst xs) => match pdAll xs with
      | some ds => some (.list ds)
      | none => none
    | _ => none
  | x => x.pd
def eqD (st : Store) (x y : Val) : Option Bool := match pdAt st x, pdAt st y with
  | some d, some e => if SeqAt.shaped d = true ∧ SeqAt.shaped e = true then some (PyData.eqv d e) else none
  | _, _ => none
/-- == by values -/
def eqV1 (st : Store) (x y : Val) : Option Bool := match flatVal x, flatVal y with
  | some v, some w => if scal v w = true then some (decide (v = w)) else none
  | _, _ => match x, y with
    | .ref r, .ref q => match st[r]?, st[q]? with
      | some (.lst xs), some (.lst []) => some xs.isEmpty
      | _, _ => eqD st x y
    | .tup xs, .tup [] => some xs.isEmpty
    | _, _ => eqD st x y
def oEq : Op2 := fun x y st => (eqV1 st x y).map fun b => (.bl b, st)
def oNe : Op2 := fun x y st => (eqV1 st x y).map fun b => (.bl !b, st)
def Val.isNon : Val → Bool
  | .non => true
  | _ => false
def oIsNone : Op1 := fun x st => some (.bl x.isNon, st)
def oNotNone : Op1 := fun x st => some (.bl !x.isNon, st)
def flats : List Val → Option (List V)
  | [] => some []
  | v :: vs => match flatVal v, flats vs with
    | some k, some ks => some (k :: ks)
    | _, _ => none
def inOf (x : Val) (ys : List Val) : Option Bool := match flatVal x, flats ys with
  | some v, some ws => some (inV v ws)
  | _, _ => none
/-- x in y -/
def isIn (st : Store) (x y : Val) : Option Bool := match y with
  | .tup ys => inOf x ys
  | .str z => match x with
    | .str s => some (!(Builtin.Str.occurrences z s 0 z.length 1).isEmpty)
    | _ => none
  | .ref r => match st[r]? with
    | some (.lst ys) => inOf x ys
    | some (.dK kvs) => (keyOf x).map fun k => (dget kvs k).isSome
    | some (.dT kvs) => match x with
      | .tup vs => (keysOf vs).map fun k => (dget kvs k).isSome
      | _ => none
    | _ => none
  | _ => none
def oIn : Op2 := fun x y st => (isIn st x y).map fun b => (.bl b, st)
def oNotIn : Op2 := fun x y st => (isIn st x y).map fun b => (.bl !b, st)
/-- x[y] -/
def atIx (st : Store) (x y : Val) : Option Val := match x with
  | .tup xs => match y with
    | .int i => atI xs i
    | _ => none
  | .str z => match y with
    | .int i => if fits z.length then (atI z.cps.toList i).map fun c => .str ⟨#[c]⟩ else none
    | _ => none
  | .ref r => match st[r]? with
    | some (.lst xs) => match y with
      | .int i => atI xs i
      | _ => none
    | some (.rol xs) => match y with
      | .int i => atI xs i
      | _ => none
    | some (.dK kvs) => match keyOf y with
      | some k => dget kvs k
      | none => none
    | some (.dT kvs) => match y with
      | .tup vs => match keysOf vs with
        | some k => dget kvs k
        | none => none
      | _ => none
    | some (.fK kvs) => match keyOf y with
      | some k => dget kvs k
      | none => none
    | some (.fT kvs) => match y with
      | .tup vs => match keysOf vs with
        | some k => dget kvs k
        | none => none
      | _ => none
    | _ => none
  | _ => none
def oIx : Op2 := fun x y st => (atIx st x y).map fun v => (v, st)
/-- slices -/
def cutX {α : Type} (xs : List α) (lo hi : Option Int) : List α := (xs.drop (HT.sIx xs.length 0 lo)).take (HT.sIx xs.length xs.length hi - HT.sIx xs.length 0 lo)
def slOf (x : Val) (lo hi : Option Int) (st : Store) : Option (Val × Store) := match x with
  | .kl ns => some (.ref st.length, st ++ [.lst (cutX (ns.map Val.int) lo hi)])
  | .tup xs => some (.tup (cutX xs lo hi), st)
  | .str z => if fits z.length then some (.str (cutS z lo hi), st) else none
  | .ref r => match st[r]? with
    | some (.lst xs) => some (.ref st.length, st ++ [.lst (cutX xs lo hi)])
    | some (.rol xs) => some (.ref st.length, st ++ [.lst (cutX xs lo hi)])
    | _ => none
  | _ => none
abbrev Eo := Sem1 (Option Int)
def oNo : Eo := fun _ st => .ok none st
def oSome (a : Ev) : Eo := fun ρ st => (a ρ st).bind fun x st => match x with
  | .int i => .ok (some i) st
  | _ => .bad
def eSl (a : Ev) (lo hi : Eo) : Ev := fun ρ st => (a ρ st).bind fun x st => (lo ρ st).bind fun l st => (hi ρ st).bind fun h st => ofO (slOf x l h st)
/-- xs[::-1] -/
def oRev : Op1 := fun x st => match x with
  | .ref r => match st[r]? with
    | some (.lst xs) => some (.ref st.length, st ++ [.lst xs.reverse])
    | _ => none
  | _ => none

/-! ### built-in functions -/
def nLen : OpN := fun vs st => match vs with
  | [.tup xs] => some (.int xs.length, st)
  | [.str z] => if fits z.length then some (.int z.length, st) else none
  | [.ref r] => match st[r]? with
    | some (.lst xs) => some (.int xs.length, st)
    | some (.rol xs) => some (.int xs.length, st)
    | _ => none
  | _ => none
def nAbs : OpN := fun vs st => match vs with
  | [.int i] => some (.int (if i < 0 then -i else i), st)
  | _ => none
def nInt : OpN := fun vs st => match vs with
  | [.int i] => some (.int i, st)
  | [.bl b] => some (.int (if b then 1 else 0), st)
  | _ => none
def nTuple : OpN := fun vs st => match vs with
  | [.tup xs] => some (.tup xs, st)
  | [.ref r] => match st[r]? with
    | some (.lst xs) => some (.tup xs, st)
    | _ => none
  | _ => none
def nList : OpN := fun vs st => match vs with
  | [.tup xs] => some (.ref st.length, st ++ [.lst xs])
  | [.ref r] => match st[r]? with
    | some (.lst xs) => some (.ref st.length, st ++ [.lst xs])
    | _ => none
  | _ => none
def intsOf : List Val → Option (List Int)
  | [] => some []
  | .int i :: vs => (intsOf vs).map (i :: ·)
  | _ => none
def nSum : OpN := fun vs st => match vs with
  | [.ref r] => match st[r]? with
    | some (.lst xs) => (intsOf xs).map fun ns => (.int ns.sum, st)
    | _ => none
  | _ => none
/-- the built-in type of a value -/
def tyOf (st : Store) : Val → Option String
  | .non => some "NoneType"
  | .bl _ => some "bool"
  | .int _ => some "int"
  | .str _ => some "str"
  | .tup _ => some "tuple"
  | .ref r => match st[r]? with
    | some (.lst _) => some "list"
    | some (.rol _) => some "list"
    | some (.dK _) => some "dict"
    | some (.dT _) => some "dict"
    | _ => none
  | .ty _ => none
  | .kl _ => none
def isTy (a b : String) : Option Bool := if a = b then some true else if a = "bool" ∧ b = "int" then some true else if b = "int" ∨ b = "str" ∨ b = "tuple" ∨ b = "bool" ∨ b = "list" ∨ b = "dict" then some false else none
def nIsi : OpN := fun vs st => match vs with
  | [x, .ty n] => match tyOf st x with
    | some t => (isTy t n).map fun b => (.bl b, st)
    | none => none
  | _ => none
def Val.isObj : Val → Bool
  | .tup _ => true
  | .ref _ => true
  | _ => false
def nRepr : OpN := fun vs st => match vs with
  | [x] => if x.isObj = true then match pdAt st x with
      | some d => if d.showable = true ∧ d.hasDict = false ∧ fits d.shown.length ∧ d.depth ≤ 64 then some (.str d.shown, st) else none
      | none => none
    else none
  | _ => none

/-! ### methods of lists -/
def mAppend : Val → OpN := fun x vs st => match x, vs with
  | .ref r, [y] => match st[r]? with
    | some (.lst xs) => if xs.length < sizeLine then some (.non, st.set r (.lst (xs ++ [y]))) else none
    | _ => none
  | _, _ => none
def mExtend : Val → OpN := fun x vs st => match x, vs with
  | .ref r, [.ref q] => match st[r]?, st[q]? with
    | some (.lst xs), some (.lst ys) => if fits (xs.length + ys.length) then some (.non, st.set r (.lst (xs ++ ys))) else none
    | _, _ => none
  | .ref r, [.tup ys] => match st[r]? with
    | some (.lst xs) => if fits (xs.length + ys.length) then some (.non, st.set r (.lst (xs ++ ys))) else none
    | _ => none
  | _, _ => none
def mPop : Val → OpN := fun x vs st => match x, vs with
  | .ref r, [] => match st[r]? with
    | some (.lst xs) => match xs.getLast? with
      | some y => some (y, st.set r (.lst xs.dropLast))
      | none => none
    | _ => none
  | .ref r, [.int i] => match st[r]? with
    | some (.lst xs) => if -(2 ^ 63) ≤ i ∧ i < 2 ^ 63 then match seqIndex? i xs.length with
        | some k => match xs[k]? with
          | some y => some (y, st.set r (.lst (xs.eraseIdx k)))
          | none => none
        | none => none
      else none
    | _ => none
  | _, _ => none
def isLst (st : Store) : Val → Bool
  | .ref r => match st[r]? with
    | some (.lst _) => true
    | _ => false
  | _ => false
/-- a list's method -/
def eMeth (f : Val → OpN) (a : Ev) (l : El) : Ev := fun ρ st => (a ρ st).bind fun x st => if isLst st x = true then (l ρ st).bind fun xs st => ofO (f x xs st) else .bad

/-! ### statements -/
inductive RS where
  | nx (ρ : Slots) (st : Store)
  | rt (v : Val) (st : Store)
  | bk (ρ : Slots) (st : Store)
  | ct (ρ : Slots) (st : Store)
  | ex (cn : Str) (fs : List (Str × Val)) (ρ : Slots) (st : Store)
  | bad
abbrev Sm := Slots → Store → RS
def Res.thenS {α : Type} (ρ : Slots) (r : Res α) (f : α → Store → RS) : RS := match r with
  | .ok a st => f a st
  | .ex c fs st => .ex c fs ρ st
  | .bad => .bad
@[simp] theorem Res.thenS_ok {α : Type} (ρ : Slots) (a : α) (st : Store) (f : α → Store → RS) : (Res.ok a st).thenS ρ f = f a st := rfl
@[simp] theorem Res.thenS_ex {α : Type} (ρ : Slots) (c : Str) (fs : List (Str × Val)) (st : Store) (f : α → Store → RS) : (Res.ex c fs st : Res α).thenS ρ f = .ex c fs ρ st := rfl
@[simp] theorem Res.thenS_bad {α : Type} (ρ : Slots) (f : α → Store → RS) : (Res.bad : Res α).thenS ρ f = .bad := rfl
def sNop : Sm := fun ρ st => .nx ρ st
def sSeq (a b : Sm) : Sm := fun ρ st => match a ρ st with
  | .nx ρ st => b ρ st
  | r => r
def sDrop (a : Ev) : Sm := fun ρ st => (a ρ st).thenS ρ fun _ st => .nx ρ st
def sRet (a : Ev) : Sm := fun ρ st => (a ρ st).thenS ρ fun v st => .rt v st
def sRetN : Sm := fun _ st => .rt .non st
def sIf (t : Et) (a b : Sm) : Sm := fun ρ st => (t ρ st).thenS ρ fun x st => if x then a ρ st else b ρ st
def sBreak : Sm := fun ρ st => .bk ρ st
def sCont : Sm := fun ρ st => .ct ρ st
/-- targets: a value stored -/
abbrev Tg := Val → Slots → Option Slots
def gSlot (i : Nat) : Tg := fun v ρ => if i < ρ.length then some (ρ.set i (some v)) else none
abbrev Tgs := List Val → Slots → Option Slots
def gsNil : Tgs := fun vs ρ => match vs with
  | [] => some ρ
  | _ => none
def gsCons (g : Tg) (gs : Tgs) : Tgs := fun vs ρ => match vs with
  | v :: r => match g v ρ with
    | some ρ => gs r ρ
    | none => none
  | _ => none
def gTupT (gs : Tgs) : Tg := fun v ρ => match v with
  | .tup xs => gs xs ρ
  | _ => none
def sSet (a : Ev) (g : Tg) : Sm := fun ρ st => (a ρ st).thenS ρ fun v st => match g v ρ with
  | some ρ => .nx ρ st
  | none => .bad
/-- x, y = a, b with plain names -/
def sPar (i j : Nat) (l : El) : Sm := fun ρ st => (l ρ st).thenS ρ fun vs st => match vs with
  | [v, w] => .nx ((ρ.set i (some v)).set j (some w)) st
  | _ => .bad
def putIx (x y v : Val) (st : Store) : Option Store := match x with
  | .ref r => match st[r]? with
    | some (.lst xs) => match y with
      | .int i => match ixN xs.length i with
        | some j => some (st.set r (.lst (xs.set j v)))
        | none => none
      | _ => none
    | some (.dK kvs) => match keyOf y with
      | some k => if kvs.length < sizeLine then some (st.set r (.dK (dput kvs k v))) else none
      | none => none
    | some (.dT kvs) => match y with
      | .tup vs => match keysOf vs with
        | some k => if kvs.length < sizeLine then some (st.set r (.dT (dput kvs k v))) else none
        | none => none
      | _ => none
    | _ => none
  | _ => none
/-- o[i] = e -/
def sPut (o i e : Ev) : Sm := fun ρ st => (e ρ st).thenS ρ fun v st => (o ρ st).thenS ρ fun x st => (i ρ st).thenS ρ fun y st => match putIx x y v st with
  | some st => .nx ρ st
  | none => .bad

/-! ### loops -/
/-- the things that a loop walks: told, or a list's cell as it stands -/
inductive Src where
  | vals (xs : List Val)
  | cell (r : Nat) (xs : List Val)
  | frz (r : Nat) (c : Cell) (xs : List Val)
def Src.items : Src → List Val
  | .vals xs => xs
  | .cell _ xs => xs
  | .frz _ _ xs => xs
/-- the cell still holds what is walked -/
def Src.here (st : Store) : Src → Prop
  | .vals _ => True
  | .cell r xs => st[r]? = some (.lst xs) ∨ st[r]? = some (.rol xs)
  | .frz r c _ => st[r]? = some c
abbrev Eg := Sem1 Src
open Classical in
noncomputable def forL (s : Src) (g : Tg) (body : Sm) : List Val → Sm
  | [], ρ, st => if s.here st then .nx ρ st else .bad
  | x :: xs, ρ, st => if s.here st then
      match g x ρ with
      | none => .bad
      | some ρ1 => match body ρ1 st with
        | .nx ρ2 st2 => forL s g body xs ρ2 st2
        | .ct ρ2 st2 => forL s g body xs ρ2 st2
        | .bk ρ2 st2 => .nx ρ2 st2
        | r => r
    else .bad
noncomputable def sFor (it : Eg) (g : Tg) (body : Sm) : Sm := fun ρ st => (it ρ st).thenS ρ fun s st => forL s g body s.items ρ st
def whileN (t : Et) (body : Sm) : Nat → Sm
  | 0, _, _ => .bad
  | n + 1, ρ, st => (t ρ st).thenS ρ fun b st => if b then
      match body ρ st with
      | .nx ρ2 st2 => whileN t body n ρ2 st2
      | .ct ρ2 st2 => whileN t body n ρ2 st2
      | .bk ρ2 st2 => .nx ρ2 st2
      | r => r
    else .nx ρ st
open Classical in
/-- a while that ends: by any number of turns that is enough -/
noncomputable def sWhile (t : Et) (body : Sm) : Sm := fun ρ st => if h : ∃ n, whileN t body n ρ st ≠ .bad then whileN t body (choose h) ρ st else .bad

/-! ### what is walked -/
def iSeq (a : Ev) : Eg := fun ρ st => (a ρ st).bind fun x st => match x with
  | .tup xs => .ok (.vals xs) st
  | .str z => .ok (.vals (z.cps.toList.map fun c => .str ⟨#[c]⟩)) st
  | .ref r => match st[r]? with
    | some (.lst xs) => .ok (.cell r xs) st
    | some (.rol xs) => .ok (.cell r xs) st
    | _ => .bad
  | _ => .bad
def enumL (i : Nat) : List Val → List Val
  | [] => []
  | x :: xs => .tup [.int i, x] :: enumL (i + 1) xs
def iEnum (a : Ev) : Eg := fun ρ st => (a ρ st).bind fun x st => match x with
  | .tup xs => .ok (.vals (enumL 0 xs)) st
  | _ => .bad
def inRange (i : Int) : Prop := -(2 ^ 62) ≤ i ∧ i < 2 ^ 62
instance (i : Int) : Decidable (inRange i) := inferInstanceAs (Decidable (_ ∧ _))
def rangeL (lo : Int) : Nat → List Val
  | 0 => []
  | n + 1 => .int lo :: rangeL (lo + 1) n
def iRange1 (a : Ev) : Eg := fun ρ st => (a ρ st).bind fun x st => match x with
  | .int j => if inRange j then .ok (.vals (rangeL 0 j.toNat)) st else .bad
  | _ => .bad
def iRange2 (a b : Ev) : Eg := fun ρ st => (a ρ st).bind fun x st => (b ρ st).bind fun y st => match x, y with
  | .int i, .int j => if inRange i ∧ inRange j then .ok (.vals (rangeL i (j - i).toNat)) st else .bad
  | _, _ => .bad

/-! ### comprehensions -/
open Classical in
noncomputable def compL (s : Src) (g : Tg) (t : Et) (e : Ev) (ρ : Slots) : List Val → Store → Res (List Val)
  | [], st => if s.here st then .ok [] st else .bad
  | x :: xs, st => if s.here st then
      match g x ρ with
      | none => .bad
      | some ρ1 => match t ρ1 st with
        | .ok true st1 => match e ρ1 st1 with
          | .ok y st2 => (compL s g t e ρ xs st2).bind fun ys st3 => .ok (y :: ys) st3
          | _ => .bad
        | .ok false st1 => compL s g t e ρ xs st1
        | _ => .bad
    else .bad
/-- the slots of the block's own names forgotten -/
def wipeS (ρ : Slots) : List Nat → Slots
  | [] => ρ
  | v :: vs => (wipeS ρ vs).set v none
noncomputable def eComp (it : Eg) (own : List Nat) (g : Tg) (t : Et) (e : Ev) : Ev := fun ρ st => (it ρ st).bind fun s st =>
  match compL s g t e (wipeS ρ own) s.items st with
  | .ok ys st => if ys.length ≤ sizeLine then .ok (.ref st.length) (st ++ [.lst ys]) else .bad
  | _ => .bad
def tTrue : Et := fun _ st => .ok true st
end EV
namespace EV
open PySem PySem.Spec L2
/-- written dicts -/
def eDispL : List (Key × Ev) → Sem1 (List (Key × Val))
  | [], _, st => .ok [] st
  | (k, e) :: r, ρ, st => (e ρ st).bind fun x st => (eDispL r ρ st).bind fun kvs st => .ok ((k, x) :: kvs) st
def eDisp (l : List (Key × Ev)) : Ev := fun ρ st => (eDispL l ρ st).bind fun kvs st => .ok (.ref st.length) (st ++ [.dK (kvs.foldl (fun acc kv => dput acc kv.1 kv.2) [])])
end EV
namespace EV
open PySem PySem.Spec L2

/-! ### how the store lies in the heap -/
structure Pm where
  K : PySem.W.Frag
  mg : Str → Option Value
abbrev pmOf (X : Cx) : Pm := ⟨X.K, X.mg⟩

def KVR {κ : Type} (K : PySem.W.Frag) (H : Hp) (m : List Addr) : List (κ × Val) → List (κ × V) → Prop
  | [], l => l = []
  | (k, x) :: r, l => ∃ v l', l = (k, v) :: l' ∧ VR K H m x v ∧ KVR K H m r l'

def CR (p : Pm) (H : Hp) (m : List Addr) (a : Addr) : Cell → Prop
  | .lst xs => ∃ vs, H a = some (.lst vs) ∧ VRs p.K H m xs vs
  | .rol xs => ∃ vs o, H a = some (.frz o (.lst vs)) ∧ VRs p.K H m xs vs
  | .dK kvs => ∃ ws, H a = some (.dK ws) ∧ KVR p.K H m kvs ws
  | .dT kvs => ∃ ws, H a = some (.dT ws) ∧ KVR p.K H m kvs ws
  | .fK kvs => ∃ ws o, H a = some (.frz o (.dK ws)) ∧ KVR p.K H m kvs ws
  | .fT kvs => ∃ ws o, H a = some (.frz o (.dT ws)) ∧ KVR p.K H m kvs ws
  | .ins cn fs => ∃ C dx gs, p.mg cn = some (.ref C) ∧ H a = some (.ins C dx gs) ∧ KVR p.K H m fs gs

structure SR (p : Pm) (H : Hp) (m : List Addr) (st : Store) : Prop where
  len : m.length = st.length
  nd : m.Nodup
  cell : ∀ (r : Nat) (a : Addr) (c : Cell), m[r]? = some a → st[r]? = some c → CR p H m a c

structure ER (p : Pm) (H : Hp) (m : List Addr) (σ : St) (ρ : Slots) : Prop where
  len : ρ.length = σ.length
  slot : ∀ (i : Nat) (x : Val), ρ[i]? = some (some x) → ∃ v, σ[i]? = some (some v) ∧ VR p.K H m x v
theorem ER.mono {p : Pm} {H H' : Hp} {m m' : List Addr} {σ : St} {ρ : Slots} (E : ER p H m σ ρ) (e : Ext H H' m m') : ER p H' m' σ ρ :=
  ⟨E.len, fun i x h => let ⟨v, h1, h2⟩ := E.slot i x h; ⟨v, h1, h2.mono e⟩⟩

/-- an exception: its class's name, its fields -/
def XR (p : Pm) (H : Hp) (m : List Addr) (cn : Str) (fs : List (Str × Val)) (cls : Value) (d : Option Addr) : Prop :=
  ∃ C, p.mg cn = some (.ref C) ∧ cls = .ref C ∧ ((fs = [] ∧ d = none) ∨ ∃ dd gs, d = some dd ∧ H dd = some (.xd gs) ∧ KVR p.K H m fs gs)

/-! ### what is wanted of an outcome -/
section
variable {α β γ δ : Type}
abbrev Rl (α β : Type) := Hp → List Addr → α → β → Prop
def Af (R : Rl α β) (p : Pm) (W : WX) (σ : St) (H : Hp) (m : List Addr) (Q : β → Hp → Prop) : Res α → Prop
  | .ok x st => ∀ v H' m', Ext H H' m m' → R H' m' x v → SR p H' m' st → Q v H'
  | .ex c fs st => ∀ cls d H' m', Ext H H' m m' → SR p H' m' st → XR p H' m' c fs cls d → W cls d σ H'
  | .bad => False
theorem Af.move {R : Rl α β} {p : Pm} {W : WX} {σ : St} {H H1 : Hp} {m m1 : List Addr} {Q : β → Hp → Prop} {r : Res α} (h : Af R p W σ H m Q r) (e : Ext H H1 m m1) : Af R p W σ H1 m1 Q r := by
  cases r with
  | ok x st => exact fun v H' m' e' rv sr => h v H' m' (e.trans e') rv sr
  | ex c fs st => exact fun cls d H' m' e' sr xr => h cls d H' m' (e.trans e') sr xr
  | bad => exact h
/-- the first part of what is bound -/
theorem Af.bind {R : Rl α β} {R2 : Rl γ δ} {p : Pm} {W : WX} {σ : St} {H : Hp} {m : List Addr} {Q : δ → Hp → Prop} {r : Res α} {f : α → Store → Res γ} (h : Af R2 p W σ H m Q (r.bind f)) :
    Af R p W σ H m (fun v H1 => ∃ m1 st a, Ext H H1 m m1 ∧ SR p H1 m1 st ∧ R H1 m1 a v ∧ r = .ok a st ∧ Af R2 p W σ H1 m1 Q (f a st)) r := by
  cases r with
  | ok x st => exact fun v H' m' e rv sr => ⟨m', st, x, e, sr, rv, rfl, h.move e⟩
  | ex c fs st => exact h
  | bad => exact h
theorem Af.imp {R : Rl α β} {p : Pm} {W : WX} {σ : St} {H : Hp} {m : List Addr} {Q Q' : β → Hp → Prop} {r : Res α} (h : Af R p W σ H m Q r) (i : ∀ v H', Q v H' → Q' v H') : Af R p W σ H m Q' r := by
  cases r with
  | ok x st => exact fun v H' m' e rv sr => i _ _ (h v H' m' e rv sr)
  | ex c fs st => exact h
  | bad => exact h
/-- a reading out of a meaning -/
def T (R : Rl α β) (p : Pm) (W : WX) (e : Sem1 α) : St → Hp → (β → Hp → Prop) → Prop :=
  fun σ H Q => ∃ m ρ st, ER p H m σ ρ ∧ SR p H m st ∧ Af R p W σ H m Q (e ρ st)
end
abbrev RV (K : PySem.W.Frag) : Rl Val V := fun H m x v => VR K H m x v
abbrev RVs (K : PySem.W.Frag) : Rl (List Val) (List V) := fun H m x v => VRs K H m x v
abbrev RB : Rl Bool Bool := fun _ _ x v => x = v
abbrev RO : Rl (Option Int) (Option Int) := fun _ _ x v => x = v
abbrev TV (p : Pm) (W : WX) (e : Ev) : TE := T (RV p.K) p W e
abbrev TBl (p : Pm) (W : WX) (e : Et) : TT := T RB p W e
abbrev TL (p : Pm) (W : WX) (e : El) : TA := T (RVs p.K) p W e
abbrev TOp (p : Pm) (W : WX) (e : Eo) : TO := T RO p W e

theorem _root_.L2.PE.imp {X : Cx} {e : Expr} {t t' : TE} (h : PE X e t) (i : ∀ σ H Q, t' σ H Q → t σ H Q) : PE X e t' := ⟨fun pins s σ H Q I q => h.run pins s σ H Q I (i σ H Q q)⟩
theorem _root_.L2.PT.imp {X : Cx} {e : Expr} {t t' : TT} (h : PT X e t) (i : ∀ σ H Q, t' σ H Q → t σ H Q) : PT X e t' := ⟨fun pins s σ H Q I q => h.run pins s σ H Q I (i σ H Q q)⟩
theorem _root_.L2.PW.imp {X : Cx} {e : Expr} {t t' : TT} (h : PW X e t) (i : ∀ σ H Q, t' σ H Q → t σ H Q) : PW X e t' := ⟨fun wh pins s σ H Q I q => h.run wh pins s σ H Q I (i σ H Q q)⟩
theorem _root_.L2.PA.imp {X : Cx} {e : List Expr} {t t' : TA} (h : PA X e t) (i : ∀ σ H Q, t' σ H Q → t σ H Q) : PA X e t' := ⟨fun pos pins s σ H Q I q => h.run pos pins s σ H Q I (i σ H Q q)⟩
theorem _root_.L2.PO.imp {X : Cx} {e : Option Expr} {t t' : TO} (h : PO X e t) (i : ∀ σ H Q, t' σ H Q → t σ H Q) : PO X e t' := ⟨fun pins s σ H Q I q => h.run pins s σ H Q I (i σ H Q q)⟩
theorem _root_.L2.PS.imp {X : Cx} {e : Stmt} {t t' : TS} (h : PS X e t) (i : ∀ D σ H, t' D σ H → t D σ H) : PS X e t' := ⟨fun pins s σ H D I q => h.run pins s σ H D I (i D σ H q)⟩
theorem _root_.L2.PSs.imp {X : Cx} {e : List Stmt} {t t' : TS} (h : PSs X e t) (i : ∀ D σ H, t' D σ H → t D σ H) : PSs X e t' := ⟨fun pins s σ H D I q => h.run pins s σ H D I (i D σ H q)⟩
theorem _root_.L2.PE.or {X : Cx} {e : Expr} {t t' : TE} (h : PE X e t) (h' : PE X e t') : PE X e (fun σ H Q => t σ H Q ∨ t' σ H Q) :=
  ⟨fun pins s σ H Q I q => q.elim (h.run pins s σ H Q I) (h'.run pins s σ H Q I)⟩
theorem _root_.L2.PS.or {X : Cx} {e : Stmt} {t t' : TS} (h : PS X e t) (h' : PS X e t') : PS X e (fun D σ H => t D σ H ∨ t' D σ H) :=
  ⟨fun pins s σ H D I q => q.elim (h.run pins s σ H D I) (h'.run pins s σ H D I)⟩

/-! ### new cells, changed cells -/
section
variable {p : Pm} {H : Hp} {m : List Addr} {st : Store}
theorem CR.tracked {a : Addr} {c : Cell} (h : CR p H m a c) : ∃ o, H a = some o ∧ ∀ xs, o ≠ .tup xs := by
  cases c with
  | lst xs => obtain ⟨vs, h, _⟩ := h; exact ⟨_, h, fun _ z => nomatch z⟩
  | rol xs => obtain ⟨vs, o, h, _⟩ := h; exact ⟨_, h, fun _ z => nomatch z⟩
  | dK xs => obtain ⟨vs, h, _⟩ := h; exact ⟨_, h, fun _ z => nomatch z⟩
  | dT xs => obtain ⟨vs, h, _⟩ := h; exact ⟨_, h, fun _ z => nomatch z⟩
  | fK xs => obtain ⟨vs, o, h, _⟩ := h; exact ⟨_, h, fun _ z => nomatch z⟩
  | fT xs => obtain ⟨vs, o, h, _⟩ := h; exact ⟨_, h, fun _ z => nomatch z⟩
  | ins cn xs => obtain ⟨C, dx, gs, _, h, _⟩ := h; exact ⟨_, h, fun _ z => nomatch z⟩
theorem SR.has (S : SR p H m st) {a : Addr} (h : a ∈ m) : ∃ o, H a = some o ∧ ∀ xs, o ≠ .tup xs := by
  obtain ⟨r, hr⟩ := List.mem_iff_getElem?.mp h
  have hl : r < st.length := by rw [← S.len]; exact (List.getElem?_eq_some_iff.mp hr).1
  exact (S.cell r a st[r] hr (List.getElem?_eq_getElem hl)).tracked
theorem KVR.mono0 {κ : Type} {K : PySem.W.Frag} {H' : Hp} {m' : List Addr} (hp : m <+: m') (ht : ∀ a xs, H a = some (.tup xs) → H' a = some (.tup xs)) : ∀ {kvs : List (κ × Val)} {ws : List (κ × V)}, KVR K H m kvs ws → KVR K H' m' kvs ws
  | [], _, h => h
  | (k, x) :: r, ws, h => by
    unfold KVR at h ⊢
    obtain ⟨v, l', h1, h2, h3⟩ := h
    exact ⟨v, l', h1, VR.mono0 hp ht h2, KVR.mono0 hp ht h3⟩
theorem KVR.mono {κ : Type} {K : PySem.W.Frag} {H' : Hp} {m' : List Addr} (e : Ext H H' m m') {kvs : List (κ × Val)} {ws : List (κ × V)} (h : KVR K H m kvs ws) : KVR K H' m' kvs ws := KVR.mono0 e.pre e.tup h
/-- a cell whose object stands as it was -/
theorem CR.mono0 {H' : Hp} {m' : List Addr} {a : Addr} {c : Cell} (h : CR p H m a c) (hp : m <+: m') (ht : ∀ a xs, H a = some (.tup xs) → H' a = some (.tup xs)) (s : ∀ o, H a = some o → H' a = some o) : CR p H' m' a c := by
  cases c with
  | lst xs => obtain ⟨vs, h1, h2⟩ := h; exact ⟨vs, s _ h1, VRs.mono0 hp ht h2⟩
  | rol xs => obtain ⟨vs, o, h1, h2⟩ := h; exact ⟨vs, o, s _ h1, VRs.mono0 hp ht h2⟩
  | dK xs => obtain ⟨vs, h1, h2⟩ := h; exact ⟨vs, s _ h1, KVR.mono0 hp ht h2⟩
  | dT xs => obtain ⟨vs, h1, h2⟩ := h; exact ⟨vs, s _ h1, KVR.mono0 hp ht h2⟩
  | fK xs => obtain ⟨vs, o, h1, h2⟩ := h; exact ⟨vs, o, s _ h1, KVR.mono0 hp ht h2⟩
  | fT xs => obtain ⟨vs, o, h1, h2⟩ := h; exact ⟨vs, o, s _ h1, KVR.mono0 hp ht h2⟩
  | ins cn xs => obtain ⟨C, dx, gs, h0, h1, h2⟩ := h; exact ⟨C, dx, gs, h0, s _ h1, KVR.mono0 hp ht h2⟩
theorem CR.mono {H' : Hp} {m' : List Addr} {a : Addr} {c : Cell} (h : CR p H m a c) (e : Ext H H' m m') (s : ∀ o, H a = some o → H' a = some o) : CR p H' m' a c := h.mono0 e.pre e.tup s
/-- something new that is no cell -/
theorem Ext.fresh {a : Addr} (n : H a = none) (o : HO) : Ext H (upd H a o) m m :=
  ⟨List.prefix_refl _, fun _ h n => absurd h n, fun b u h _ => by rw [upd_ne (ne_of_none h n)]; exact h, fun b xs h => by rw [upd_ne (ne_of_none h n)]; exact h, fun b o x h => by rw [upd_ne (ne_of_none h n)]; exact h⟩
theorem SR.fresh (S : SR p H m st) {a : Addr} (n : H a = none) (o : HO) : SR p (upd H a o) m st :=
  ⟨S.len, S.nd, fun r b c h1 h2 => (S.cell r b c h1 h2).mono (Ext.fresh n o) fun u h => by rw [upd_ne (ne_of_none h n)]; exact h⟩
/-- a new cell -/
theorem Ext.push {a : Addr} (n : H a = none) (o : HO) : Ext H (upd H a o) m (m ++ [a]) :=
  ⟨List.prefix_append _ _, fun b h1 h2 => by rcases List.mem_append.mp h1 with z | z; exact absurd z h2; rw [List.mem_singleton.mp z]; exact n,
   fun b u h _ => by rw [upd_ne (ne_of_none h n)]; exact h, fun b xs h => by rw [upd_ne (ne_of_none h n)]; exact h, fun b o x h => by rw [upd_ne (ne_of_none h n)]; exact h⟩
theorem SR.push0 (S : SR p H m st) {a : Addr} (na : a ∉ m) (nt : ∀ xs, H a ≠ some (.tup xs)) {o : HO} {c : Cell} (hc : CR p (upd H a o) (m ++ [a]) a c) : SR p (upd H a o) (m ++ [a]) (st ++ [c]) := by
  refine ⟨by simp [S.len], ?_, fun r b c' h1 h2 => ?_⟩
  · refine List.nodup_append.mpr ⟨S.nd, by simp, fun x hx y hy e => ?_⟩
    rw [List.mem_singleton.mp hy] at e
    subst e
    exact na hx
  · by_cases hr : r < m.length
    · rw [List.getElem?_append_left hr] at h1
      rw [List.getElem?_append_left (by rw [← S.len]; exact hr)] at h2
      have hb : b ≠ a := fun e => na (by rw [← e]; exact List.mem_of_getElem? h1)
      exact (S.cell r b c' h1 h2).mono0 (List.prefix_append _ _) (fun d xs h => by rw [upd_ne (fun e => nt xs (by rw [← e]; exact h))]; exact h) fun u h => by rw [upd_ne hb]; exact h
    · have e1 := (List.getElem?_eq_some_iff.mp h1).1
      simp only [List.length_append, List.length_singleton] at e1
      have er : r = m.length := by omega
      subst er
      simp only [List.getElem?_concat_length, Option.some.injEq] at h1
      rw [S.len] at h2
      simp only [List.getElem?_concat_length, Option.some.injEq] at h2
      subst h1; subst h2
      exact hc
theorem SR.push (S : SR p H m st) {a : Addr} (n : H a = none) {o : HO} {c : Cell} (hc : CR p (upd H a o) (m ++ [a]) a c) : SR p (upd H a o) (m ++ [a]) (st ++ [c]) :=
  S.push0 (fun h => by obtain ⟨o, ho, _⟩ := S.has h; rw [n] at ho; cases ho) (fun xs h => by rw [n] at h; cases h) hc
theorem push_get (m : List Addr) (a : Addr) (st : Store) (S : m.length = st.length) : (m ++ [a])[st.length]? = some a := by rw [← S]; simp
/-- a cell is changed -/
theorem SR.tupw {r : Nat} {a : Addr} {o : HO} (ha : m[r]? = some a) (S : SR p H m st) : ∀ b xs, H b = some (.tup xs) → upd H a o b = some (.tup xs) := fun b xs h => by
  refine (upd_ne fun e => ?_).trans h
  obtain ⟨u, hu, ht⟩ := S.has (List.mem_of_getElem? ha)
  rw [← e, h] at hu
  exact ht xs (Option.some.inj hu).symm
theorem Ext.write {r : Nat} {a : Addr} {o : HO} (ha : m[r]? = some a) (S : SR p H m st) (hf : ∀ q x, H a ≠ some (.frz q x)) : Ext H (upd H a o) m m := by
  have hm : a ∈ m := List.mem_of_getElem? ha
  exact ⟨List.prefix_refl _, fun _ h n => absurd h n, fun b u h n => by rw [upd_ne (fun e => n (by rw [e]; exact hm))]; exact h, S.tupw ha, fun b q x h => by rw [upd_ne (fun e => hf q x (by rw [← e]; exact h))]; exact h⟩
theorem SR.write {r : Nat} {a : Addr} {o : HO} {c : Cell} (S : SR p H m st) (ha : m[r]? = some a) (hc : CR p (upd H a o) m a c) : SR p (upd H a o) m (st.set r c) := by
  refine ⟨by simp [S.len], S.nd, fun q b c' h1 h2 => ?_⟩
  by_cases hq : q = r
  · subst hq
    rw [ha] at h1; cases h1
    have hl : q < st.length := by rw [← S.len]; exact (List.getElem?_eq_some_iff.mp ha).1
    rw [List.getElem?_set_self hl] at h2; cases h2
    exact hc
  · rw [List.getElem?_set_ne (Ne.symm hq)] at h2
    have hne : b ≠ a := by
      rintro rfl
      have l1 := (List.getElem?_eq_some_iff.mp h1).1
      have l2 := (List.getElem?_eq_some_iff.mp ha).1
      have e1 := (List.getElem?_eq_some_iff.mp h1).2
      have e2 := (List.getElem?_eq_some_iff.mp ha).2
      exact hq ((List.getElem_inj S.nd).mp (e1.trans e2.symm))
    exact (S.cell q b c' h1 h2).mono0 (List.prefix_refl _) (S.tupw ha) fun u h => by rw [upd_ne hne]; exact h
theorem SR.at_ {r : Nat} {c : Cell} (S : SR p H m st) (h : st[r]? = some c) : ∃ a, m[r]? = some a ∧ CR p H m a c := by
  have hl : r < m.length := by rw [S.len]; exact (List.getElem?_eq_some_iff.mp h).1
  exact ⟨m[r], List.getElem?_eq_getElem hl, S.cell r _ c (List.getElem?_eq_getElem hl) h⟩
theorem VR.ref_at {K : PySem.W.Frag} {r : Nat} {v : V} {a : Addr} (h : VR K H m (.ref r) v) (e : m[r]? = some a) : v = .ref a := by
  unfold VR at h
  obtain ⟨b, h1, h2⟩ := h
  rw [e] at h1; cases h1
  exact h2
theorem vrs_ints {K : PySem.W.Frag} : ∀ ns : List Int, VRs K H m (ns.map Val.int) (ns.map V.int)
  | [] => by unfold VRs; rfl
  | n :: ns => by
    unfold VRs
    refine ⟨.int n, _, rfl, ?_, vrs_ints ns⟩
    unfold VR
    rfl
theorem VR.kl_inv {K : PySem.W.Frag} {ns : List Int} {v : V} (h : VR K H m (.kl ns) v) : ∃ a, v = .ref a ∧ SqL K H a (ns.map V.int) := by
  unfold VR at h
  obtain ⟨a, h1, h2⟩ := h
  exact ⟨a, h1, .inr h2⟩
/-- a value that is a place: what lies there -/
theorem SR.deref {r : Nat} {c : Cell} {v : V} (S : SR p H m st) (h : st[r]? = some c) (hv : VR p.K H m (.ref r) v) : ∃ a, v = .ref a ∧ m[r]? = some a ∧ CR p H m a c := by
  obtain ⟨a, h1, h2⟩ := S.at_ h
  exact ⟨a, hv.ref_at h1, h1, h2⟩
/-- a new tuple -/
theorem new_tup {K : PySem.W.Frag} {a : Addr} {xs : List Val} {vs : List V} (n : H a = none) (h : VRs K H m xs vs) : VR K (upd H a (.tup vs)) m (.tup xs) (.ref a) := by
  unfold VR
  exact ⟨a, vs, rfl, upd_same, h.mono (Ext.fresh n _)⟩
theorem VR.tup_inv {K : PySem.W.Frag} {xs : List Val} {v : V} (h : VR K H m (.tup xs) v) : ∃ a vs, v = .ref a ∧ SqT K H a vs ∧ VRs K H m xs vs := by
  unfold VR at h
  obtain ⟨a, vs, h1, h2, h3⟩ := h
  exact ⟨a, vs, h1, h2.sq, h3⟩
/-- a new list -/
theorem new_lst {a : Addr} {xs : List Val} {vs : List V} (S : SR p H m st) (n : H a = none) (h : VRs p.K H m xs vs) :
    Ext H (upd H a (.lst vs)) m (m ++ [a]) ∧ VR p.K (upd H a (.lst vs)) (m ++ [a]) (.ref st.length) (.ref a) ∧ SR p (upd H a (.lst vs)) (m ++ [a]) (st ++ [.lst xs]) := by
  refine ⟨Ext.push n _, ?_, S.push n ⟨vs, upd_same, h.mono (Ext.push n _)⟩⟩
  unfold VR
  exact ⟨a, push_get m a st S.len, rfl⟩
end
end EV
namespace EV
open PySem PySem.Spec L2

/-! ### readings of operations by meanings -/
def Cn (p : Pm) (H : Hp) (m : List Addr) (z : Val) (st' : Store) (Q : VK) : Prop := ∀ v' H' m', Ext H H' m m' → VR p.K H' m' z v' → SR p H' m' st' → Q v' H'
def rO1 (p : Pm) (f : Op1) : V → Hp → VK → Prop := fun v H Q => ∃ m st x z st', SR p H m st ∧ VR p.K H m x v ∧ f x st = some (z, st') ∧ Cn p H m z st' Q
def rO2 (p : Pm) (f : Op2) : R2 := fun v w H Q => ∃ m st x y z st', SR p H m st ∧ VR p.K H m x v ∧ VR p.K H m y w ∧ f x y st = some (z, st') ∧ Cn p H m z st' Q
def rON (p : Pm) (f : OpN) : List V → Hp → VK → Prop := fun vs H Q => ∃ m st xs z st', SR p H m st ∧ VRs p.K H m xs vs ∧ f xs st = some (z, st') ∧ Cn p H m z st' Q
def rOM (p : Pm) (f : Val → OpN) : V → List V → Hp → VK → Prop := fun v vs H Q => ∃ m st x xs z st', SR p H m st ∧ VR p.K H m x v ∧ VRs p.K H m xs vs ∧ f x xs st = some (z, st') ∧ Cn p H m z st' Q
section
variable {p : Pm} {W : WX} {σ : L2.St} {H : Hp} {Q : VK}
theorem of_ofO {m : List Addr} {r : Option (Val × Store)} (h : Af (RV p.K) p W σ H m Q (ofO r)) : ∃ z st', r = some (z, st') ∧ Cn p H m z st' Q := by
  cases r with
  | none => exact h.elim
  | some q => obtain ⟨z, st'⟩ := q; exact ⟨z, st', rfl, h⟩
theorem op1_imp {f : Op1} {a : Ev} (h : TV p W (eOp1 f a) σ H Q) : tUn (rO1 p f) (TV p W a) σ H Q := by
  obtain ⟨m, ρ, st, er, sr, af⟩ := h
  refine ⟨m, ρ, st, er, sr, (Af.bind af).imp ?_⟩
  rintro v H1 ⟨m1, st1, x, e1, sr1, vr1, hx, af1⟩
  obtain ⟨z, st', hf, c⟩ := of_ofO af1
  exact ⟨m1, st1, x, z, st', sr1, vr1, hf, c⟩
theorem op2_imp {f : Op2} {a b : Ev} (h : TV p W (eOp2 f a b) σ H Q) : tOp (rO2 p f) (TV p W a) (TV p W b) σ H Q := by
  obtain ⟨m, ρ, st, er, sr, af⟩ := h
  refine ⟨m, ρ, st, er, sr, (Af.bind af).imp ?_⟩
  rintro v H1 ⟨m1, st1, x, e1, sr1, vr1, hx, af1⟩
  refine ⟨m1, ρ, st1, er.mono e1, sr1, (Af.bind af1).imp ?_⟩
  rintro w H2 ⟨m2, st2, y, e2, sr2, vr2, hy, af2⟩
  obtain ⟨z, st', hf, c⟩ := of_ofO af2
  exact ⟨m2, st2, x, y, z, st', sr2, vr1.mono e2, vr2, hf, c⟩
theorem opN_imp {f : OpN} {l : El} (h : TV p W (eOpN f l) σ H Q) : tCB (rON p f) (TL p W l) σ H Q := by
  obtain ⟨m, ρ, st, er, sr, af⟩ := h
  refine ⟨m, ρ, st, er, sr, (Af.bind af).imp ?_⟩
  rintro v H1 ⟨m1, st1, x, e1, sr1, vr1, hx, af1⟩
  obtain ⟨z, st', hf, c⟩ := of_ofO af1
  exact ⟨m1, st1, x, z, st', sr1, vr1, hf, c⟩
end
theorem Cn.same {p : Pm} {H : Hp} {m : List Addr} {z : Val} {st : Store} {Q : VK} {v : V} (c : Cn p H m z st Q) (S : SR p H m st) (h : VR p.K H m z v) : Q v H := c v H m (Ext.refl H m) h S
theorem VR.int_eq {K : PySem.W.Frag} {H : Hp} {m : List Addr} {i : Int} {v : V} (h : VR K H m (.int i) v) : v = .int i := by unfold VR at h; exact h
theorem VR.str_eq {K : PySem.W.Frag} {H : Hp} {m : List Addr} {i : Str} {v : V} (h : VR K H m (.str i) v) : v = .str i := by unfold VR at h; exact h
theorem VR.bl_eq {K : PySem.W.Frag} {H : Hp} {m : List Addr} {i : Bool} {v : V} (h : VR K H m (.bl i) v) : v = .bl i := by unfold VR at h; exact h
theorem VR.non_eq {K : PySem.W.Frag} {H : Hp} {m : List Addr} {v : V} (h : VR K H m .non v) : v = .non := by unfold VR at h; exact h
theorem VR.ty_eq {K : PySem.W.Frag} {H : Hp} {m : List Addr} {n : String} {v : V} (h : VR K H m (.ty n) v) : v = .ty n := by unfold VR at h; exact h
theorem VR.int {K : PySem.W.Frag} {H : Hp} {m : List Addr} {i : Int} : VR K H m (.int i) (.int i) := by unfold VR; rfl
theorem VR.str {K : PySem.W.Frag} {H : Hp} {m : List Addr} {i : Str} : VR K H m (.str i) (.str i) := by unfold VR; rfl
theorem VR.bl {K : PySem.W.Frag} {H : Hp} {m : List Addr} {i : Bool} : VR K H m (.bl i) (.bl i) := by unfold VR; rfl
theorem VR.non {K : PySem.W.Frag} {H : Hp} {m : List Addr} : VR K H m .non .non := by unfold VR; rfl
theorem VR.ty {K : PySem.W.Frag} {H : Hp} {m : List Addr} {n : String} : VR K H m (.ty n) (.ty n) := by unfold VR; rfl
theorem VRs.append {K : PySem.W.Frag} {H : Hp} {m : List Addr} : ∀ {xs ys : List Val} {vs ws : List V}, VRs K H m xs vs → VRs K H m ys ws → VRs K H m (xs ++ ys) (vs ++ ws)
  | [], _, _, _, h, h' => by unfold VRs at h; subst h; exact h'
  | x :: xs, _, _, _, h, h' => by
    unfold VRs at h
    obtain ⟨v, r, rfl, h1, h2⟩ := h
    rw [List.cons_append]
    unfold VRs
    exact ⟨v, _, rfl, h1, VRs.append h2 h'⟩
theorem VRs.nil {K : PySem.W.Frag} {H : Hp} {m : List Addr} : VRs K H m [] [] := by unfold VRs; rfl
theorem VRs.cons {K : PySem.W.Frag} {H : Hp} {m : List Addr} {x : Val} {xs : List Val} {v : V} {vs : List V} (h : VR K H m x v) (t : VRs K H m xs vs) : VRs K H m (x :: xs) (v :: vs) := by
  unfold VRs
  exact ⟨v, vs, rfl, h, t⟩
theorem VRs.cons_inv {K : PySem.W.Frag} {H : Hp} {m : List Addr} {x : Val} {xs : List Val} {vs : List V} (h : VRs K H m (x :: xs) vs) : ∃ v r, vs = v :: r ∧ VR K H m x v ∧ VRs K H m xs r := by unfold VRs at h; exact h
theorem VRs.nil_inv {K : PySem.W.Frag} {H : Hp} {m : List Addr} {vs : List V} (h : VRs K H m [] vs) : vs = [] := by unfold VRs at h; exact h
theorem VRs.get {K : PySem.W.Frag} {H : Hp} {m : List Addr} : ∀ {xs : List Val} {vs : List V} {i : Nat} {x : Val}, VRs K H m xs vs → xs[i]? = some x → ∃ v, vs[i]? = some v ∧ VR K H m x v
  | [], _, _, _, _, e => by simp at e
  | y :: xs, _, 0, x, h, e => by
    obtain ⟨v, r, rfl, h1, h2⟩ := h.cons_inv
    simp at e; subst e
    exact ⟨v, rfl, h1⟩
  | y :: xs, _, i + 1, x, h, e => by
    obtain ⟨v, r, rfl, h1, h2⟩ := h.cons_inv
    obtain ⟨w, e1, e2⟩ := VRs.get (i := i) h2 (by simpa using e)
    exact ⟨w, by simpa using e1, e2⟩
theorem VRs.drop {K : PySem.W.Frag} {H : Hp} {m : List Addr} : ∀ {xs : List Val} {vs : List V} (n : Nat), VRs K H m xs vs → VRs K H m (xs.drop n) (vs.drop n)
  | _, _, 0, h => h
  | [], _, n + 1, h => by have := h.nil_inv; subst this; exact h
  | y :: xs, _, n + 1, h => by
    obtain ⟨v, r, rfl, h1, h2⟩ := h.cons_inv
    exact VRs.drop n h2
theorem VRs.take {K : PySem.W.Frag} {H : Hp} {m : List Addr} : ∀ {xs : List Val} {vs : List V} (n : Nat), VRs K H m xs vs → VRs K H m (xs.take n) (vs.take n)
  | _, _, 0, h => VRs.nil
  | [], _, n + 1, h => by have := h.nil_inv; subst this; exact h
  | y :: xs, _, n + 1, h => by
    obtain ⟨v, r, rfl, h1, h2⟩ := h.cons_inv
    exact VRs.cons h1 (VRs.take n h2)
theorem VRs.set {K : PySem.W.Frag} {H : Hp} {m : List Addr} {z : Val} {w : V} (hz : VR K H m z w) : ∀ {xs : List Val} {vs : List V} (n : Nat), VRs K H m xs vs → VRs K H m (xs.set n z) (vs.set n w)
  | [], _, n, h => by have := h.nil_inv; subst this; exact h
  | y :: xs, _, 0, h => by
    obtain ⟨v, r, rfl, h1, h2⟩ := h.cons_inv
    exact VRs.cons hz h2
  | y :: xs, _, n + 1, h => by
    obtain ⟨v, r, rfl, h1, h2⟩ := h.cons_inv
    exact VRs.cons h1 (VRs.set hz n h2)
theorem VRs.eraseIdx {K : PySem.W.Frag} {H : Hp} {m : List Addr} : ∀ {xs : List Val} {vs : List V} (n : Nat), VRs K H m xs vs → VRs K H m (xs.eraseIdx n) (vs.eraseIdx n)
  | [], _, n, h => by have := h.nil_inv; subst this; exact h
  | y :: xs, _, 0, h => by
    obtain ⟨v, r, rfl, h1, h2⟩ := h.cons_inv
    exact h2
  | y :: xs, _, n + 1, h => by
    obtain ⟨v, r, rfl, h1, h2⟩ := h.cons_inv
    exact VRs.cons h1 (VRs.eraseIdx n h2)
theorem VRs.reverse {K : PySem.W.Frag} {H : Hp} {m : List Addr} : ∀ {xs : List Val} {vs : List V}, VRs K H m xs vs → VRs K H m xs.reverse vs.reverse
  | [], _, h => by have := h.nil_inv; subst this; exact h
  | y :: xs, _, h => by
    obtain ⟨v, r, rfl, h1, h2⟩ := h.cons_inv
    rw [List.reverse_cons, List.reverse_cons]
    exact (VRs.reverse h2).append (VRs.cons h1 VRs.nil)
theorem VRs.dropLast {K : PySem.W.Frag} {H : Hp} {m : List Addr} {xs : List Val} {vs : List V} (h : VRs K H m xs vs) : VRs K H m xs.dropLast vs.dropLast := by
  rw [List.dropLast_eq_take, List.dropLast_eq_take, h.length]
  exact h.take _
theorem VRs.rep {K : PySem.W.Frag} {H : Hp} {m : List Addr} {xs : List Val} {vs : List V} (h : VRs K H m xs vs) : ∀ n : Nat, VRs K H m (List.replicate n xs).flatten (List.replicate n vs).flatten
  | 0 => VRs.nil
  | n + 1 => by
    rw [List.replicate_succ, List.replicate_succ, List.flatten_cons, List.flatten_cons]
    exact h.append (VRs.rep h n)
theorem VRs.atI {K : PySem.W.Frag} {H : Hp} {m : List Addr} {xs : List Val} {vs : List V} {i : Int} {x : Val} (h : VRs K H m xs vs) (e : L2.atI xs i = some x) : ∃ v, L2.atI vs i = some v ∧ VR K H m x v := by
  unfold L2.atI at e ⊢
  rw [h.length]
  cases q : ixN xs.length i with
  | none => rw [q] at e; cases e
  | some j =>
    rw [q] at e
    exact h.get (by simpa using e)
theorem VRs.cut {K : PySem.W.Frag} {H : Hp} {m : List Addr} {xs : List Val} {vs : List V} (h : VRs K H m xs vs) (lo hi : Option Int) : VRs K H m (cutX xs lo hi) (cutV vs lo hi) := by
  unfold cutX cutV
  rw [h.length]
  exact (h.drop _).take _

/-! ### names, constants, argument lists, displays -/
section
variable {X : Cx} {W : WX} {pos : Pos}
theorem me_var {i : Nat} {x : Str} (h : PE X (.Name x pos) (tVar i)) : PE X (.Name x pos) (TV (pmOf X) W (eVar i)) := h.imp fun σ H Q ⟨m, ρ, st, er, sr, af⟩ => by
  unfold eVar at af
  split at af
  · rename_i v hv
    obtain ⟨w, hw, vr⟩ := er.slot i v hv
    exact ⟨w, hw, af w H m (Ext.refl H m) vr sr⟩
  · exact af.elim
theorem me_c {e : Expr} {v : V} {c : Val} (h : PE X e (tC v)) (hv : ∀ K H m, VR K H m c v) : PE X e (TV (pmOf X) W (eC c)) := h.imp fun σ H Q ⟨m, ρ, st, er, sr, af⟩ => af v H m (Ext.refl H m) (hv _ _ _) sr
theorem me_int {i : Int} {j : Nat} : PE X (.Constant (.int i) j pos) (TV (pmOf X) W (eC (.int i))) := me_c pe_int fun _ _ _ => VR.int
theorem me_str {x : String} {j : Nat} : PE X (.Constant (.str x) j pos) (TV (pmOf X) W (eC (.str x))) := me_c pe_str fun _ _ _ => VR.str
theorem me_bl {b : Bool} {j : Nat} : PE X (.Constant (.bool b) j pos) (TV (pmOf X) W (eC (.bl b))) := me_c pe_bl fun _ _ _ => VR.bl
theorem me_non {j : Nat} : PE X (.Constant .none j pos) (TV (pmOf X) W (eC .non)) := me_c pe_non fun _ _ _ => VR.non
theorem ma_nil : PA X [] (TL (pmOf X) W lNil) := pa_nil.imp fun σ H Q ⟨m, ρ, st, er, sr, af⟩ => af [] H m (Ext.refl H m) VRs.nil sr
theorem ma_cons {e : Expr} {es : List Expr} {a : Ev} {l : El} (ha : PE X e (TV (pmOf X) W a)) (hl : PA X es (TL (pmOf X) W l)) (hs : starEach (e :: es) X.env = (false, eval e X.env) :: starEach es X.env := by rfl) :
    PA X (e :: es) (TL (pmOf X) W (lCons a l)) := (pa_cons ha hl hs).imp fun σ H Q ⟨m, ρ, st, er, sr, af⟩ => by
  refine ⟨m, ρ, st, er, sr, (Af.bind af).imp ?_⟩
  rintro v H1 ⟨m1, st1, x, e1, sr1, vr1, hx, af1⟩
  refine ⟨m1, ρ, st1, er.mono e1, sr1, (Af.bind af1).imp ?_⟩
  rintro w H2 ⟨m2, st2, y, e2, sr2, vr2, hy, af2⟩
  exact af2 _ H2 m2 (Ext.refl _ _) (VRs.cons (vr1.mono e2) vr2) sr2
/-- how many there are -/
def Many (n : Nat) (l : El) : Prop := ∀ ρ st xs st', l ρ st = .ok xs st' → xs.length = n
theorem many_nil : Many 0 lNil := fun ρ st xs st' h => by unfold lNil at h; cases h; rfl
theorem many_cons {n : Nat} {a : Ev} {l : El} (h : Many n l) : Many (n + 1) (lCons a l) := fun ρ st xs st' e => by
  unfold lCons at e
  cases q : a ρ st with
  | ok x st1 =>
    rw [q, Res.bind_ok] at e
    cases q2 : l ρ st1 with
    | ok ys st2 =>
      rw [q2, Res.bind_ok] at e
      cases e
      rw [List.length_cons, h _ _ _ _ q2]
    | ex c fs s => rw [q2, Res.bind_ex] at e; cases e
    | bad => rw [q2, Res.bind_bad] at e; cases e
  | ex c fs s => rw [q, Res.bind_ex] at e; cases e
  | bad => rw [q, Res.bind_bad] at e; cases e
theorem me_tup {es : List Expr} {k n : Nat} {l : El} (h : PA X es (TL (pmOf X) W l)) (hn : Many n l) (hz : n ≤ 1000 := by decide) : PE X (.Tuple es k pos) (TV (pmOf X) W (eTup l)) := (pe_tup h).imp fun σ H Q ⟨m, ρ, st, er, sr, af⟩ => by
  refine ⟨m, ρ, st, er, sr, (Af.bind af).imp ?_⟩
  rintro v H1 ⟨m1, st1, x, e1, sr1, vr1, hx, af1⟩
  refine ⟨?_, fun a n => af1 _ _ m1 (Ext.fresh n _) (new_tup n vr1) (sr1.fresh n _)⟩
  rw [vr1.length, hn _ _ _ _ hx]
  exact Nat.le_of_lt (small1000 hz)
theorem me_lst {es : List Expr} {n : Nat} {l : El} (h : PA X es (TL (pmOf X) W l)) (hn : Many n l) (hz : n ≤ 1000 := by decide) : PE X (.List es pos) (TV (pmOf X) W (eLst l)) := (pe_lst h).imp fun σ H Q ⟨m, ρ, st, er, sr, af⟩ => by
  refine ⟨m, ρ, st, er, sr, (Af.bind af).imp ?_⟩
  rintro v H1 ⟨m1, st1, x, e1, sr1, vr1, hx, af1⟩
  refine ⟨?_, fun a n => ?_⟩
  · rw [vr1.length, hn _ _ _ _ hx]
    exact Nat.le_of_lt (small1000 hz)
  · obtain ⟨q1, q2, q3⟩ := new_lst sr1 n vr1
    exact af1 _ _ _ q1 q2 q3
theorem me_newK : PE X (.Dict [] [] pos) (TV (pmOf X) W eNewK) := pe_dnewK.imp fun σ H Q ⟨m, ρ, st, er, sr, af⟩ => fun a n =>
  af _ _ _ (Ext.push n _) (by unfold VR; exact ⟨a, push_get m a st sr.len, rfl⟩) (sr.push n ⟨[], upd_same, by unfold KVR; rfl⟩)
theorem me_newT : PE X (.Dict [] [] pos) (TV (pmOf X) W eNewT) := pe_dnewT.imp fun σ H Q ⟨m, ρ, st, er, sr, af⟩ => fun a n =>
  af _ _ _ (Ext.push n _) (by unfold VR; exact ⟨a, push_get m a st sr.len, rfl⟩) (sr.push n ⟨[], upd_same, by unfold KVR; rfl⟩)
end

/-! ### operators -/
section
variable {X : Cx} {W : WX} {pos : Pos} {a b : Expr} {ea eb : Ev}
theorem me_op {op : Operator} {f : Op2} (ho : OpR X (binaryOp op) (rO2 (pmOf X) f)) (ha : PE X a (TV (pmOf X) W ea)) (hb : PE X b (TV (pmOf X) W eb)) : PE X (.BinOp a op b pos) (TV (pmOf X) W (eOp2 f ea eb)) :=
  (pe_op ho ha hb).imp fun _ _ _ h => op2_imp h
theorem me_cmp {op : CmpOp} {f : Op2} (ho : OpR X (compareOp op) (rO2 (pmOf X) f)) (ha : PE X a (TV (pmOf X) W ea)) (hb : PE X b (TV (pmOf X) W eb)) (hm : behindInMarks op b = false) : PE X (.Compare a [op] [b] pos) (TV (pmOf X) W (eOp2 f ea eb)) :=
  (pe_cmpR ho ha hb hm).imp fun _ _ _ h => op2_imp h
theorem me_un {op : UnaryOp} {f : Op1} (ho : UnR X (unaryOp op) (rO1 (pmOf X) f)) (ha : PE X a (TV (pmOf X) W ea)) : PE X (.UnaryOp op a pos) (TV (pmOf X) W (eOp1 f ea)) :=
  (pe_un ho ha).imp fun _ _ _ h => op1_imp h
end
section
variable {X : Cx}
theorem o_add : OpR X (binaryOp .Add) (rO2 (pmOf X) oAdd) := by
  intro pins s σ H x y v u Q I rx ry h
  obtain ⟨m, st, a, b, z, st', S, ha, hb, hf, c⟩ := h
  unfold oAdd at hf
  split at hf
  · cases hf
    cases ha.int_eq; cases hb.int_eq
    exact op_add pins s σ H _ _ v u Q I rx ry ⟨_, _, rfl, rfl, c.same S VR.int⟩
  · split at hf
    · rename_i hz
      cases hf
      cases ha.str_eq; cases hb.str_eq
      exact op_add_str pins s σ H _ _ v u Q I rx ry ⟨_, _, rfl, rfl, hz, c.same S VR.str⟩
    · cases hf
  · split at hf
    · rename_i xs ys hz
      cases hf
      obtain ⟨a1, vs, rfl, h1, h2⟩ := ha.tup_inv
      obtain ⟨b1, ws, rfl, h3, h4⟩ := hb.tup_inv
      refine op_catA pins s σ H _ _ v u Q I rx ry ⟨a1, b1, vs, ws, rfl, rfl, h1, h3, by rw [h2.length, h4.length]; exact hz, fun e => ?_, fun _ e => ?_, fun _ _ q n => ?_⟩
      · have e' : xs = [] := by have := h2.length; rw [e] at this; exact List.length_eq_zero_iff.mp this.symm
        subst e'
        exact c.same S hb
      · have e' : ys = [] := by have := h4.length; rw [e] at this; exact List.length_eq_zero_iff.mp this.symm
        subst e'
        rw [List.append_nil] at c
        exact c.same S ha
      · exact c _ _ m (Ext.fresh n _) (new_tup n (h2.append h4)) (S.fresh n _)
    · cases hf
  · split at hf
    · rename_i xs ys e1 e2
      split at hf
      · rename_i hz
        cases hf
        obtain ⟨a1, rfl, _, vs, h1, h2⟩ := S.deref e1 ha
        obtain ⟨b1, rfl, _, ws, h3, h4⟩ := S.deref e2 hb
        refine op_cat pins s σ H _ _ v u Q I rx ry ⟨a1, b1, vs, ws, rfl, rfl, h1, h3, by rw [h2.length, h4.length]; exact hz, fun q n => ?_⟩
        obtain ⟨q1, q2, q3⟩ := new_lst S n (h2.append h4)
        exact c _ _ _ q1 q2 q3
      · cases hf
    · cases hf
  · cases hf
theorem o_sub : OpR X (binaryOp .Sub) (rO2 (pmOf X) oSub) := by
  intro pins s σ H x y v u Q I rx ry h
  obtain ⟨m, st, a, b, z, st', S, ha, hb, hf, c⟩ := h
  unfold oSub at hf
  split at hf
  · cases hf
    cases ha.int_eq; cases hb.int_eq
    exact op_sub pins s σ H _ _ v u Q I rx ry ⟨_, _, rfl, rfl, c.same S VR.int⟩
  · cases hf
theorem o_mul : OpR X (binaryOp .Mult) (rO2 (pmOf X) oMul) := by
  intro pins s σ H x y v u Q I rx ry h
  obtain ⟨m, st, a, b, z, st', S, ha, hb, hf, c⟩ := h
  unfold oMul at hf
  split at hf
  · split at hf
    · rename_i hz
      cases hf
      cases ha.int_eq; cases hb.int_eq
      rcases hz with hz | hz | hz
      · exact op_mul pins s σ H _ _ v u Q I rx ry ⟨_, _, rfl, rfl, .inl hz, c.same S VR.int⟩
      · exact op_mul pins s σ H _ _ v u Q I rx ry ⟨_, _, rfl, rfl, .inr hz, c.same S VR.int⟩
      · exact op_mulW pins s σ H _ _ v u Q I rx ry ⟨_, _, rfl, rfl, hz, c.same S VR.int⟩
    · cases hf
  · split at hf
    · rename_i xs e1
      split at hf
      · rename_i hz
        cases hf
        cases hb.int_eq
        obtain ⟨a1, rfl, _, vs, h1, h2⟩ := S.deref e1 ha
        refine op_rep pins s σ H _ _ v u Q I rx ry ⟨a1, _, vs, rfl, rfl, h1, hz.1.1, hz.1.2, by rw [h2.length]; exact hz.2, fun q n => ?_⟩
        obtain ⟨q1, q2, q3⟩ := new_lst S n (h2.rep _)
        exact c _ _ _ q1 q2 q3
      · cases hf
    · cases hf
  · cases hf
theorem o_floordiv : OpR X (binaryOp .FloorDiv) (rO2 (pmOf X) oFloorDiv) := by
  intro pins s σ H x y v u Q I rx ry h
  obtain ⟨m, st, a, b, z, st', S, ha, hb, hf, c⟩ := h
  unfold oFloorDiv at hf
  split at hf
  · split at hf
    · rename_i hz
      cases hf
      cases ha.int_eq; cases hb.int_eq
      exact op_fdivW pins s σ H _ _ v u Q I rx ry ⟨_, _, rfl, rfl, hz, c.same S VR.int⟩
    · cases hf
  · cases hf
theorem o_mod : OpR X (binaryOp .Mod) (rO2 (pmOf X) oMod) := by
  intro pins s σ H x y v u Q I rx ry h
  obtain ⟨m, st, a, b, z, st', S, ha, hb, hf, c⟩ := h
  unfold oMod at hf
  split at hf
  · split at hf
    · rename_i hz
      cases hf
      cases ha.int_eq; cases hb.int_eq
      exact op_mod pins s σ H _ _ v u Q I rx ry ⟨_, _, rfl, rfl, hz, c.same S VR.int⟩
    · cases hf
  · cases hf
theorem o_pow : OpR X (binaryOp .Pow) (rO2 (pmOf X) oPow) := by
  intro pins s σ H x y v u Q I rx ry h
  obtain ⟨m, st, a, b, z, st', S, ha, hb, hf, c⟩ := h
  unfold oPow at hf
  split at hf
  · split at hf
    · rename_i hz
      cases hf
      cases ha.int_eq; cases hb.int_eq
      exact op_pow pins s σ H _ _ v u Q I rx ry ⟨_, _, rfl, rfl, hz, c.same S VR.int⟩
    · cases hf
  · cases hf
theorem o_neg : UnR X (unaryOp .USub) (rO1 (pmOf X) oNeg) := by
  intro pins s σ H x v Q I rx h
  obtain ⟨m, st, a, z, st', S, ha, hf, c⟩ := h
  unfold oNeg at hf
  split at hf
  · cases hf
    cases ha.int_eq
    exact un_neg pins s σ H _ v Q I rx ⟨_, rfl, c.same S VR.int⟩
  · cases hf
theorem o_cmp {op : CmpOp} {g : Int → Int → Bool} (r : OpR X (compareOp op) (rI0 fun i j => .bl (g i j))) : OpR X (compareOp op) (rO2 (pmOf X) (oCmp g)) := by
  intro pins s σ H x y v u Q I rx ry h
  obtain ⟨m, st, a, b, z, st', S, ha, hb, hf, c⟩ := h
  unfold oCmp at hf
  split at hf
  · cases hf
    cases ha.int_eq; cases hb.int_eq
    exact r pins s σ H _ _ v u Q I rx ry ⟨_, _, rfl, rfl, c.same S VR.bl⟩
  · cases hf
theorem o_lt : OpR X (compareOp .Lt) (rO2 (pmOf X) oLt) := o_cmp op_lt
theorem o_le : OpR X (compareOp .LtE) (rO2 (pmOf X) oLe) := o_cmp op_le
theorem o_gt : OpR X (compareOp .Gt) (rO2 (pmOf X) oGt) := o_cmp op_gt
theorem o_ge : OpR X (compareOp .GtE) (rO2 (pmOf X) oGe) := o_cmp op_ge
end
end EV
namespace EV
open PySem PySem.Spec L2

/-! ### comparisons -/
theorem flat_rel {K : PySem.W.Frag} {H : Hp} {m : List Addr} {x : Val} {v w : V} (f : flatVal x = some v) (h : VR K H m x w) : w = v ∧ flatV v = true := by
  cases x <;> simp only [flatVal, Option.some.injEq, reduceCtorEq] at f
  · subst f; exact ⟨h.non_eq, rfl⟩
  · subst f; exact ⟨h.bl_eq, rfl⟩
  · subst f; exact ⟨h.int_eq, rfl⟩
  · subst f; exact ⟨h.str_eq, rfl⟩
theorem flats_rel {K : PySem.W.Frag} {H : Hp} {m : List Addr} : ∀ {xs : List Val} {vs ws : List V}, flats xs = some vs → VRs K H m xs ws → ws = vs ∧ vs.all flatV = true
  | [], vs, ws, f, h => by
    simp only [flats, Option.some.injEq] at f
    subst f
    exact ⟨h.nil_inv, rfl⟩
  | x :: xs, vs, ws, f, h => by
    unfold flats at f
    split at f
    · rename_i v vs' e1 e2
      simp only [Option.some.injEq] at f
      subst f
      obtain ⟨w, r, rfl, h1, h2⟩ := h.cons_inv
      obtain ⟨rfl, f1⟩ := flat_rel e1 h1
      obtain ⟨rfl, f2⟩ := flats_rel e2 h2
      exact ⟨rfl, by simp [f1, f2]⟩
    · cases f
section
variable {X : Cx} {pins : List (Addr × Obj)} {s : Shared} {σ : L2.St} {H : Hp}
theorem isL_of {a : Addr} {xs : List V} (I : Inv X pins σ H s) (h : SqL X.K H a xs) : ∃ its : List Value, Vals xs its ∧ s.heap.IsList a its.toArray ∧ xs.length = its.length := by
  obtain ⟨its, r, pl, _⟩ := I.list h
  exact ⟨its, r, pl.isList, r.length⟩
theorem eq_lnil (hu : X.A.units + 64 < cLine) : OpR X (compareOp .Eq) (fun x y H Q => ∃ a b xs, x = .ref a ∧ y = .ref b ∧ SqL X.K H a xs ∧ SqL X.K H b [] ∧ Q (.bl xs.isEmpty) H) := by
  intro pins s σ H x y v u Q I rx ry h
  obtain ⟨a, b, xs, rfl, rfl, h1, h2, q⟩ := h
  cases rx; cases ry
  obtain ⟨is, r1, l1, n1⟩ := isL_of I h1
  obtain ⟨js, r2, l2, n2⟩ := isL_of I h2
  have ej : js = [] := List.length_eq_zero_iff.mp n2.symm
  subst ej
  cases xs with
  | nil =>
    have ei : is = [] := List.length_eq_zero_iff.mp n1.symm
    subst ei
    exact SeqAt.eq_listAt (e := fun _ => true) l1 l2 rfl (by omega) (fun j h1 _ => absurd h1 (by simp)) (fin_bl I q rfl)
  | cons z zs =>
    refine SeqAt.eq_list_lengthsAt l1 l2 ?_ (by omega) (fin_bl I q rfl)
    have : is.length ≠ 0 := by rw [← n1]; simp
    simpa using this
theorem ne_lnil (hu : X.A.units + 64 < cLine) : OpR X (compareOp .NotEq) (fun x y H Q => ∃ a b xs, x = .ref a ∧ y = .ref b ∧ SqL X.K H a xs ∧ SqL X.K H b [] ∧ Q (.bl !xs.isEmpty) H) := by
  intro pins s σ H x y v u Q I rx ry h
  obtain ⟨a, b, xs, rfl, rfl, h1, h2, q⟩ := h
  cases rx; cases ry
  obtain ⟨is, r1, l1, n1⟩ := isL_of I h1
  obtain ⟨js, r2, l2, n2⟩ := isL_of I h2
  have ej : js = [] := List.length_eq_zero_iff.mp n2.symm
  subst ej
  cases xs with
  | nil =>
    have ei : is = [] := List.length_eq_zero_iff.mp n1.symm
    subst ei
    exact SeqAt.RcNeAt.lists (e := fun _ => true) l1 l2 rfl (by omega) (fun j h1 _ => absurd h1 (by simp)) _ _ _ _ (fin_bl I q rfl)
  | cons z zs =>
    refine SeqAt.RcNeAt.lists_lengths l1 l2 ?_ (by omega) _ _ _ _ (fin_bl I q rfl)
    have : is.length ≠ 0 := by rw [← n1]; simp
    simpa using this
theorem eq_tnil (hu : X.A.units + 64 < cLine) : OpR X (compareOp .Eq) (fun x y H Q => ∃ a b xs, x = .ref a ∧ y = .ref b ∧ SqT X.K H a xs ∧ SqT X.K H b [] ∧ Q (.bl xs.isEmpty) H) := by
  intro pins s σ H x y v u Q I rx ry h
  obtain ⟨a, b, xs, rfl, rfl, h1, h2, q⟩ := h
  cases rx; cases ry
  obtain ⟨is, r1, l1, _⟩ := I.tuple h1
  obtain ⟨js, r2, l2, _⟩ := I.tuple h2
  have n1 := r1.length
  cases r2
  refine SeqAt.eq_tupleAt (e := fun _ => true) l1 l2 (by omega) (fun j _ h2 => absurd h2 (by simp)) (fin_bl I q ?_)
  cases r1 <;> simp
theorem ne_tnil (hu : X.A.units + 64 < cLine) : OpR X (compareOp .NotEq) (fun x y H Q => ∃ a b xs, x = .ref a ∧ y = .ref b ∧ SqT X.K H a xs ∧ SqT X.K H b [] ∧ Q (.bl !xs.isEmpty) H) := by
  intro pins s σ H x y v u Q I rx ry h
  obtain ⟨a, b, xs, rfl, rfl, h1, h2, q⟩ := h
  cases rx; cases ry
  obtain ⟨is, r1, l1, _⟩ := I.tuple h1
  obtain ⟨js, r2, l2, _⟩ := I.tuple h2
  have n1 := r1.length
  cases r2
  refine SeqAt.RcNeAt.tuples (e := fun _ => true) l1 l2 (by omega) (fun j _ h2 => absurd h2 (by simp)) _ _ _ _ (fin_bl I q ?_)
  cases r1 <;> simp
end
mutual
theorem dp_of {K : PySem.W.Frag} {H : Hp} {m : List Addr} : ∀ {x : Val} {d : PyData} {v : V}, x.pd = some d → VR K H m x v → Dp K H v d
  | .non, d, v, e, h => by simp only [Val.pd, Option.some.injEq] at e; subst e; rw [h.non_eq]; exact .non
  | .bl b, d, v, e, h => by simp only [Val.pd, Option.some.injEq] at e; subst e; rw [h.bl_eq]; exact .bl b
  | .int i, d, v, e, h => by simp only [Val.pd, Option.some.injEq] at e; subst e; rw [h.int_eq]; exact .int i
  | .str x, d, v, e, h => by simp only [Val.pd, Option.some.injEq] at e; subst e; rw [h.str_eq]; exact .str x
  | .ty n, d, v, e, h => by simp [Val.pd] at e
  | .ref r, d, v, e, h => by simp [Val.pd] at e
  | .tup xs, d, v, e, h => by
    unfold Val.pd at e
    split at e
    · rename_i ds e1
      simp only [Option.some.injEq] at e
      subst e
      obtain ⟨a, vs, rfl, h1, h2⟩ := h.tup_inv
      exact .tup h1 (dpAll_of e1 h2)
    · cases e
theorem dpAll_of {K : PySem.W.Frag} {H : Hp} {m : List Addr} : ∀ {xs : List Val} {ds : List PyData} {vs : List V}, pdAll xs = some ds → VRs K H m xs vs → DpAll K H vs ds
  | [], ds, vs, e, h => by
    simp only [pdAll, Option.some.injEq] at e
    subst e
    rw [h.nil_inv]
    exact .nil
  | x :: xs, ds, vs, e, h => by
    unfold pdAll at e
    split at e
    · rename_i d ds' e1 e2
      simp only [Option.some.injEq] at e
      subst e
      obtain ⟨v, r, rfl, h1, h2⟩ := h.cons_inv
      exact .cons (dp_of e1 h1) (dpAll_of e2 h2)
    · cases e
end
theorem dpAt_of {p : Pm} {H : Hp} {m : List Addr} {st : Store} (S : SR p H m st) {x : Val} {d : PyData} {v : V} (e : pdAt st x = some d) (h : VR p.K H m x v) : Dp p.K H v d := by
  unfold pdAt at e
  split at e
  · rename_i r
    split at e
    · rename_i xs e1
      split at e
      · rename_i ds e2
        simp only [Option.some.injEq] at e
        subst e
        obtain ⟨a, rfl, _, vs, h1, h2⟩ := S.deref e1 h
        exact .lst (SqL.of h1) (dpAll_of e2 h2)
      · cases e
    · cases e
  · exact dp_of e h
section
variable {X : Cx}
theorem eqD_rel {p : Pm} {H : Hp} {m : List Addr} {st : Store} (S : SR p H m st) {x y : Val} {v w : V} {b : Bool} (e : eqD st x y = some b) (h : VR p.K H m x v) (h' : VR p.K H m y w) :
    ∃ d d', Dp p.K H v d ∧ Dp p.K H w d' ∧ SeqAt.shaped d = true ∧ SeqAt.shaped d' = true ∧ b = PyData.eqv d d' := by
  unfold eqD at e
  split at e
  · rename_i d d' e1 e2
    split at e
    · rename_i hs
      simp only [Option.some.injEq] at e
      exact ⟨d, d', dpAt_of S e1 h, dpAt_of S e2 h', hs.1, hs.2, e.symm⟩
    · cases e
  · cases e
/-- what == of values comes to, by one of the rules -/
theorem eqV1_cases {p : Pm} {H : Hp} {m : List Addr} {st : Store} (S : SR p H m st) {x y : Val} {v w : V} {b : Bool} (e : eqV1 st x y = some b) (h : VR p.K H m x v) (h' : VR p.K H m y w) :
    (scal v w = true ∧ b = decide (v = w)) ∨ (∃ a c xs, v = .ref a ∧ w = .ref c ∧ SqL p.K H a xs ∧ SqL p.K H c [] ∧ b = xs.isEmpty) ∨
    (∃ a c xs, v = .ref a ∧ w = .ref c ∧ SqT p.K H a xs ∧ SqT p.K H c [] ∧ b = xs.isEmpty) ∨
    ∃ d d', Dp p.K H v d ∧ Dp p.K H w d' ∧ SeqAt.shaped d = true ∧ SeqAt.shaped d' = true ∧ b = PyData.eqv d d' := by
  unfold eqV1 at e
  split at e
  · rename_i v1 w1 e1 e2
    split at e
    · rename_i hs
      simp only [Option.some.injEq] at e
      obtain ⟨rfl, _⟩ := flat_rel e1 h
      obtain ⟨rfl, _⟩ := flat_rel e2 h'
      exact .inl ⟨hs, e.symm⟩
    · cases e
  · split at e
    · split at e
      · rename_i xs e1 e2
        simp only [Option.some.injEq] at e
        obtain ⟨a, rfl, _, vs, h1, h2⟩ := S.deref e1 h
        obtain ⟨c, rfl, _, ws, h3, h4⟩ := S.deref e2 h'
        have := h4.nil_inv
        subst this
        refine .inr (.inl ⟨a, c, vs, rfl, rfl, SqL.of h1, SqL.of h3, ?_⟩)
        rw [← e, Bool.eq_iff_iff, List.isEmpty_iff, List.isEmpty_iff, ← List.length_eq_zero_iff, ← List.length_eq_zero_iff, h2.length]
      · exact .inr (.inr (.inr (eqD_rel S e h h')))
    · rename_i xs
      simp only [Option.some.injEq] at e
      obtain ⟨a, vs, rfl, h1, h2⟩ := h.tup_inv
      obtain ⟨c, ws, rfl, h3, h4⟩ := h'.tup_inv
      have := h4.nil_inv
      subst this
      refine .inr (.inr (.inl ⟨a, c, vs, rfl, rfl, h1, h3, ?_⟩))
      rw [← e, Bool.eq_iff_iff, List.isEmpty_iff, List.isEmpty_iff, ← List.length_eq_zero_iff, ← List.length_eq_zero_iff, h2.length]
    · exact .inr (.inr (.inr (eqD_rel S e h h')))
theorem o_eq (hu : X.A.units + 64 < cLine) : OpR X (compareOp .Eq) (rO2 (pmOf X) oEq) := by
  intro pins s σ H x y v u Q I rx ry h
  obtain ⟨m, st, a, b, z, st', S, ha, hb, hf, c⟩ := h
  unfold oEq at hf
  rw [Option.map_eq_some_iff] at hf
  obtain ⟨k, e, hf⟩ := hf
  cases hf
  have q := c.same S VR.bl
  rcases eqV1_cases S e ha hb with ⟨h1, rfl⟩ | ⟨a, c1, xs, rfl, rfl, h1, h2, rfl⟩ | ⟨a, c1, xs, rfl, rfl, h1, h2, rfl⟩ | ⟨d, d', h1, h2, h3, h4, rfl⟩
  · exact op_eq pins s σ H _ _ v u Q I rx ry ⟨h1, q⟩
  · exact eq_lnil hu pins s σ H _ _ v u Q I rx ry ⟨a, c1, xs, rfl, rfl, h1, h2, q⟩
  · exact eq_tnil hu pins s σ H _ _ v u Q I rx ry ⟨a, c1, xs, rfl, rfl, h1, h2, q⟩
  · exact op_eqD hu pins s σ H _ _ v u Q I rx ry ⟨d, d', h1, h2, h3, h4, q⟩
theorem o_ne (hu : X.A.units + 64 < cLine) : OpR X (compareOp .NotEq) (rO2 (pmOf X) oNe) := by
  intro pins s σ H x y v u Q I rx ry h
  obtain ⟨m, st, a, b, z, st', S, ha, hb, hf, c⟩ := h
  unfold oNe at hf
  rw [Option.map_eq_some_iff] at hf
  obtain ⟨k, e, hf⟩ := hf
  cases hf
  have q := c.same S VR.bl
  rcases eqV1_cases S e ha hb with ⟨h1, rfl⟩ | ⟨a, c1, xs, rfl, rfl, h1, h2, rfl⟩ | ⟨a, c1, xs, rfl, rfl, h1, h2, rfl⟩ | ⟨d, d', h1, h2, h3, h4, rfl⟩
  · exact op_ne pins s σ H _ _ v u Q I rx ry ⟨h1, q⟩
  · exact ne_lnil hu pins s σ H _ _ v u Q I rx ry ⟨a, c1, xs, rfl, rfl, h1, h2, q⟩
  · exact ne_tnil hu pins s σ H _ _ v u Q I rx ry ⟨a, c1, xs, rfl, rfl, h1, h2, q⟩
  · exact op_neD hu pins s σ H _ _ v u Q I rx ry ⟨d, d', h1, h2, h3, h4, q⟩

/-! ### dicts -/
theorem keyOf_rel {K : PySem.W.Frag} {H : Hp} {m : List Addr} {x : Val} {k : Key} {v : V} (e : keyOf x = some k) (h : VR K H m x v) : v = kV k := by
  cases x <;> simp only [keyOf, Option.some.injEq, reduceCtorEq] at e
  · subst e; exact h.int_eq
  · subst e; exact h.str_eq
theorem keysOf_rel {K : PySem.W.Frag} {H : Hp} {m : List Addr} : ∀ {xs : List Val} {ks : List Key} {vs : List V}, keysOf xs = some ks → VRs K H m xs vs → vs = ks.map kV
  | [], ks, vs, e, h => by simp only [keysOf, Option.some.injEq] at e; subst e; exact h.nil_inv
  | x :: xs, ks, vs, e, h => by
    unfold keysOf at e
    split at e
    · rename_i k ks' e1 e2
      simp only [Option.some.injEq] at e
      subst e
      obtain ⟨v, r, rfl, h1, h2⟩ := h.cons_inv
      rw [keyOf_rel e1 h1, keysOf_rel e2 h2]; rfl
    · cases e
theorem KVR.get {κ : Type} [DecidableEq κ] {K : PySem.W.Frag} {H : Hp} {m : List Addr} {k : κ} : ∀ {kvs : List (κ × Val)} {ws : List (κ × V)}, KVR K H m kvs ws →
    (dget kvs k = none ∧ valV ws k = none) ∨ ∃ x v, dget kvs k = some x ∧ valV ws k = some v ∧ VR K H m x v
  | [], ws, h => by unfold KVR at h; subst h; exact .inl ⟨rfl, rfl⟩
  | (j, x) :: r, ws, h => by
    unfold KVR at h
    obtain ⟨v, l, rfl, h1, h2⟩ := h
    by_cases hj : j = k
    · refine .inr ⟨x, v, by simp [dget, hj], valV_pos hj, h1⟩
    · rw [valV_neg (by exact hj)]
      have e : dget ((j, x) :: r) k = dget r k := by simp [dget, List.find?_cons, hj]
      rw [e]
      exact KVR.get h2
theorem KVR.keys {κ : Type} {K : PySem.W.Frag} {H : Hp} {m : List Addr} : ∀ {kvs : List (κ × Val)} {ws : List (κ × V)}, KVR K H m kvs ws → ws.map (·.1) = kvs.map (·.1)
  | [], ws, h => by unfold KVR at h; subst h; rfl
  | (j, x) :: r, ws, h => by
    unfold KVR at h
    obtain ⟨v, l, rfl, h1, h2⟩ := h
    simp [h2.keys]
theorem KVR.length {κ : Type} {K : PySem.W.Frag} {H : Hp} {m : List Addr} {kvs : List (κ × Val)} {ws : List (κ × V)} (h : KVR K H m kvs ws) : ws.length = kvs.length := by
  have := congrArg List.length h.keys
  simpa using this
theorem any_keys {κ α β : Type} [DecidableEq κ] {k : κ} {kvs : List (κ × α)} {ws : List (κ × β)} (h : ws.map (·.1) = kvs.map (·.1)) : (ws.any fun kv => decide (kv.1 = k)) = kvs.any fun kv => decide (kv.1 = k) := by
  have e1 : (ws.any fun kv => decide (kv.1 = k)) = (ws.map (·.1)).any fun j => decide (j = k) := by rw [List.any_map]; rfl
  have e2 : (kvs.any fun kv => decide (kv.1 = k)) = (kvs.map (·.1)).any fun j => decide (j = k) := by rw [List.any_map]; rfl
  rw [e1, e2, h]
theorem KVR.snoc {κ : Type} {K : PySem.W.Frag} {H : Hp} {m : List Addr} {k : κ} {x : Val} {v : V} (hx : VR K H m x v) : ∀ {kvs : List (κ × Val)} {ws : List (κ × V)}, KVR K H m kvs ws → KVR K H m (kvs ++ [(k, x)]) (ws ++ [(k, v)])
  | [], ws, h => by unfold KVR at h; subst h; rw [List.nil_append, List.nil_append]; unfold KVR; exact ⟨v, [], rfl, hx, by unfold KVR; rfl⟩
  | (j, y) :: r, ws, h => by
    unfold KVR at h
    obtain ⟨w, l, rfl, h1, h2⟩ := h
    rw [List.cons_append, List.cons_append]
    unfold KVR
    exact ⟨w, _, rfl, h1, KVR.snoc hx h2⟩
theorem KVR.repl {κ : Type} [DecidableEq κ] {K : PySem.W.Frag} {H : Hp} {m : List Addr} {k : κ} {x : Val} {v : V} (hx : VR K H m x v) : ∀ {kvs : List (κ × Val)} {ws : List (κ × V)}, KVR K H m kvs ws →
    KVR K H m (kvs.map fun kv => if kv.1 = k then (kv.1, x) else kv) (ws.map fun kv => if kv.1 = k then (kv.1, v) else kv)
  | [], ws, h => by unfold KVR at h; subst h; simp only [List.map_nil]; unfold KVR; rfl
  | (j, y) :: r, ws, h => by
    unfold KVR at h
    obtain ⟨w, l, rfl, h1, h2⟩ := h
    simp only [List.map_cons]
    by_cases hj : j = k
    · simp only [hj, if_true]
      unfold KVR
      exact ⟨v, _, rfl, hx, KVR.repl hx h2⟩
    · simp only [hj, if_false]
      unfold KVR
      exact ⟨w, _, rfl, h1, KVR.repl hx h2⟩
theorem KVR.put {κ : Type} [DecidableEq κ] {K : PySem.W.Frag} {H : Hp} {m : List Addr} {k : κ} {x : Val} {v : V} (hx : VR K H m x v) {kvs : List (κ × Val)} {ws : List (κ × V)} (h : KVR K H m kvs ws) : KVR K H m (dput kvs k x) (putK ws k v) := by
  unfold dput putK
  rw [any_keys h.keys]
  split
  · exact KVR.repl hx h
  · exact KVR.snoc hx h
theorem VR.tup_at {K : PySem.W.Frag} {H : Hp} {m : List Addr} {xs : List Val} {v : V} (h : VR K H m (.tup xs) v) : ∃ a vs, v = .ref a ∧ H a = some (.tup vs) ∧ VRs K H m xs vs := by
  unfold VR at h
  exact h
/-- the answer of a table, whatever the key is -/
theorem dget_at {p : Pm} {H : Hp} {m : List Addr} {st : Store} (S : SR p H m st) {r : Nat} {x : Val} {v w : V} (hv : VR p.K H m (.ref r) v) (hx : VR p.K H m x w) {o : Option Val}
    (h : (∃ kvs k, (st[r]? = some (.dK kvs) ∨ st[r]? = some (.fK kvs)) ∧ keyOf x = some k ∧ o = dget kvs k) ∨ ∃ kvs ks xs, (st[r]? = some (.dT kvs) ∨ st[r]? = some (.fT kvs)) ∧ x = .tup xs ∧ keysOf xs = some ks ∧ o = dget kvs ks) :
    ∃ a u, v = .ref a ∧ DGet H a w u ∧ ((o = none ∧ u = none) ∨ ∃ y z, o = some y ∧ u = some z ∧ VR p.K H m y z) := by
  rcases h with ⟨kvs, k, hs, hk, rfl⟩ | ⟨kvs, ks, xs, hs, rfl, hk, rfl⟩
  · have e := keyOf_rel hk hx
    subst e
    rcases hs with hs | hs
    · obtain ⟨a, rfl, _, ws, h1, h2⟩ := S.deref hs hv
      refine ⟨a, valV ws k, rfl, DGet.k h1, ?_⟩
      rcases h2.get (k := k) with h | ⟨y, z, h3, h4, h5⟩
      · exact .inl h
      · exact .inr ⟨y, z, h3, h4, h5⟩
    · obtain ⟨a, rfl, _, ws, ob, h1, h2⟩ := S.deref hs hv
      refine ⟨a, valV ws k, rfl, .inl ⟨ws, k, .inr ⟨ob, h1⟩, rfl, rfl⟩, ?_⟩
      rcases h2.get (k := k) with h | ⟨y, z, h3, h4, h5⟩
      · exact .inl h
      · exact .inr ⟨y, z, h3, h4, h5⟩
  · obtain ⟨b, us, rfl, hb, hu⟩ := hx.tup_at
    have e := keysOf_rel hk hu
    subst e
    rcases hs with hs | hs
    · obtain ⟨a, rfl, _, ws, h1, h2⟩ := S.deref hs hv
      refine ⟨a, valV ws ks, rfl, DGet.t h1 hb, ?_⟩
      rcases h2.get (k := ks) with h | ⟨y, z, h3, h4, h5⟩
      · exact .inl h
      · exact .inr ⟨y, z, h3, h4, h5⟩
    · obtain ⟨a, rfl, _, ws, ob, h1, h2⟩ := S.deref hs hv
      refine ⟨a, valV ws ks, rfl, .inr ⟨ws, ks, b, .inr ⟨ob, h1⟩, rfl, hb, rfl⟩, ?_⟩
      rcases h2.get (k := ks) with h | ⟨y, z, h3, h4, h5⟩
      · exact .inl h
      · exact .inr ⟨y, z, h3, h4, h5⟩

/-! ### None, x in y -/
theorem isNon_rel {K : PySem.W.Frag} {H : Hp} {m : List Addr} {a : Val} {x : V} (ha : VR K H m a x) : a.isNon = decide (x = .non) := by
  cases a with
  | non => rw [ha.non_eq]; rfl
  | bl b => rw [ha.bl_eq]; rfl
  | int b => rw [ha.int_eq]; rfl
  | str b => rw [ha.str_eq]; rfl
  | ty b => rw [ha.ty_eq]; rfl
  | tup b => obtain ⟨_, _, rfl, _⟩ := ha.tup_at; rfl
  | ref b => unfold VR at ha; obtain ⟨_, _, rfl⟩ := ha; rfl
  | kl b => obtain ⟨_, rfl, _⟩ := ha.kl_inv; rfl
end
section
variable {p : Pm} {W : WX} {σ : L2.St} {H : Hp} {Q : VK}
theorem two_at {f : Op2} {a b : Ev} {m : List Addr} {ρ : Slots} {st : Store} (er : ER p H m σ ρ) (sr : SR p H m st) (af : Af (RV p.K) p W σ H m Q (eOp2 f a b ρ st)) :
    TV p W a σ H fun v H1 => TV p W b σ H1 fun w H2 => ∃ m2 x st1 y st2 z st', a ρ st = .ok x st1 ∧ b ρ st1 = .ok y st2 ∧ SR p H2 m2 st2 ∧ VR p.K H2 m2 x v ∧ VR p.K H2 m2 y w ∧ f x y st2 = some (z, st') ∧ Cn p H2 m2 z st' Q := by
  refine ⟨m, ρ, st, er, sr, (Af.bind af).imp ?_⟩
  rintro v H1 ⟨m1, st1, x, e1, sr1, vr1, hx, af1⟩
  refine ⟨m1, ρ, st1, er.mono e1, sr1, (Af.bind af1).imp ?_⟩
  rintro w H2 ⟨m2, st2, y, e2, sr2, vr2, hy, af2⟩
  obtain ⟨z, st', hf, c⟩ := of_ofO af2
  exact ⟨m2, x, st1, y, st2, z, st', hx, hy, sr2, vr1.mono e2, vr2, hf, c⟩
theorem TV.imp {e : Ev} {Q' : VK} (h : TV p W e σ H Q) (i : ∀ v H', Q v H' → Q' v H') : TV p W e σ H Q' := let ⟨m, ρ, st, er, sr, af⟩ := h; ⟨m, ρ, st, er, sr, af.imp i⟩
end
/-- a place of a table -/
def isTab (st : Store) (y : Val) : Prop := ∃ r, y = .ref r ∧ ((∃ kvs, st[r]? = some (.dK kvs)) ∨ ∃ kvs, st[r]? = some (.dT kvs))
section
variable {X : Cx} {W : WX} {pos p1 : Pos} {a b : Expr} {ea eb : Ev} {j : Nat}
theorem me_isNone (ha : PE X a (TV (pmOf X) W ea)) : PE X (.Compare a [.Is] [.Constant .none j p1] pos) (TV (pmOf X) W (eOp1 oIsNone ea)) :=
  (pe_cmpR op_isN ha pe_non (nomark _)).imp fun σ H Q ⟨m, ρ, st, er, sr, af⟩ => by
    refine ⟨m, ρ, st, er, sr, (Af.bind af).imp ?_⟩
    rintro v H1 ⟨m1, st1, x, e1, sr1, vr1, hx, af1⟩
    obtain ⟨z, st', hf, c⟩ := of_ofO af1
    cases hf
    refine ⟨rfl, ?_⟩
    rw [← isNon_rel vr1]
    exact c.same sr1 VR.bl
theorem me_notNone (ha : PE X a (TV (pmOf X) W ea)) : PE X (.Compare a [.IsNot] [.Constant .none j p1] pos) (TV (pmOf X) W (eOp1 oNotNone ea)) :=
  (pe_cmpR op_notN ha pe_non (nomark _)).imp fun σ H Q ⟨m, ρ, st, er, sr, af⟩ => by
    refine ⟨m, ρ, st, er, sr, (Af.bind af).imp ?_⟩
    rintro v H1 ⟨m1, st1, x, e1, sr1, vr1, hx, af1⟩
    obtain ⟨z, st', hf, c⟩ := of_ofO af1
    cases hf
    refine ⟨rfl, ?_⟩
    rw [← isNon_rel vr1]
    exact c.same sr1 VR.bl
/-- in, not in: of a tuple, a list, a text -/
theorem in_seq {neg : Bool} {p : Pm} {H : Hp} {m : List Addr} {st : Store} {x y : Val} {v w : V} {k : Bool} {Q : VK} (S : SR p H m st) (ha : VR p.K H m x v) (hb : VR p.K H m y w) (hf : isIn st x y = some k) (nt : ¬ isTab st y) (q : Q (.bl (if neg then !k else k)) H) :
    rIn p.K neg v w H Q ∨ ∃ i j, v = .str i ∧ w = .str j ∧ Q (.bl (if neg then !(!(Builtin.Str.occurrences j i 0 j.length 1).isEmpty) else !(Builtin.Str.occurrences j i 0 j.length 1).isEmpty)) H := by
  have go : ∀ (xs : List Val) (vs : List V) (c : Addr), (SqL p.K H c vs ∨ SqT p.K H c vs) → VRs p.K H m xs vs → w = .ref c → inOf x xs = some k → rIn p.K neg v w H Q := fun xs vs c h1 h2 e hin => by
    subst e
    unfold inOf at hin
    split at hin
    · rename_i w1 ws e1 e2
      simp only [Option.some.injEq] at hin
      obtain ⟨rfl, f1⟩ := flat_rel e1 ha
      obtain ⟨rfl, f2⟩ := flats_rel e2 h2
      exact ⟨c, vs, rfl, h1, f1, f2, by rw [hin]; exact q⟩
    · cases hin
  unfold isIn at hf
  split at hf
  · obtain ⟨c, vs, rfl, h1, h2⟩ := hb.tup_inv
    exact .inl (go _ vs c (.inr h1) h2 rfl hf)
  · split at hf
    · simp only [Option.some.injEq] at hf
      cases ha.str_eq; cases hb.str_eq
      exact .inr ⟨_, _, rfl, rfl, by rw [hf]; exact q⟩
    · cases hf
  · rename_i r
    split at hf
    · rename_i xs e1
      obtain ⟨c, rfl, _, vs, h1, h2⟩ := S.deref e1 hb
      exact .inl (go xs vs c (.inl (SqL.of h1)) h2 rfl hf)
    · rename_i kvs e1
      exact (nt ⟨r, rfl, .inl ⟨_, e1⟩⟩).elim
    · rename_i kvs e1
      exact (nt ⟨r, rfl, .inr ⟨_, e1⟩⟩).elim
    · cases hf
  · cases hf
theorem tab_in {p : Pm} {H : Hp} {m : List Addr} {st : Store} {x y : Val} {v w : V} {k : Bool} (S : SR p H m st) (ha : VR p.K H m x v) (hb : VR p.K H m y w) (hf : isIn st x y = some k) (t : isTab st y) : ∃ a o, w = .ref a ∧ DGet H a v o ∧ o.isSome = k := by
  obtain ⟨r, rfl, ⟨kvs, e⟩ | ⟨kvs, e⟩⟩ := t
  · unfold isIn at hf
    simp only [e, Option.map_eq_some_iff] at hf
    obtain ⟨ky, hk, rfl⟩ := hf
    obtain ⟨a, u, rfl, g, h⟩ := dget_at S hb ha (o := dget kvs ky) (.inl ⟨kvs, ky, .inl e, hk, rfl⟩)
    refine ⟨a, u, rfl, g, ?_⟩
    rcases h with ⟨h1, h2⟩ | ⟨y, z, h1, h2, _⟩ <;> rw [h1, h2] <;> rfl
  · unfold isIn at hf
    simp only [e] at hf
    split at hf
    · rename_i vs
      simp only [Option.map_eq_some_iff] at hf
      obtain ⟨ky, hk, rfl⟩ := hf
      obtain ⟨a, u, rfl, g, h⟩ := dget_at S hb ha (o := dget kvs ky) (.inr ⟨kvs, ky, vs, .inl e, rfl, hk, rfl⟩)
      refine ⟨a, u, rfl, g, ?_⟩
      rcases h with ⟨h1, h2⟩ | ⟨y, z, h1, h2, _⟩ <;> rw [h1, h2] <;> rfl
    · cases hf
theorem me_in (hu : X.A.units + 1 < cLine) (ha : PE X a (TV (pmOf X) W ea)) (hb : PE X b (TV (pmOf X) W eb)) (hm : behindInMarks .In b = false) : PE X (.Compare a [.In] [b] pos) (TV (pmOf X) W (eOp2 oIn ea eb)) :=
  ((pe_cmpR (op_in_seq.or op_in_str) ha hb hm).or (pe_cmp (pc_din hu ha hb) hm)).imp fun σ H Q ⟨m, ρ, st, er, sr, af⟩ => by
    by_cases t : ∃ x st1 y st2, ea ρ st = .ok x st1 ∧ eb ρ st1 = .ok y st2 ∧ isTab st2 y
    · obtain ⟨x, st1, y, st2, h1, h2, t⟩ := t
      refine .inr ((two_at er sr af).imp fun v H1 h => h.imp fun w H2 ⟨m2, x', st1', y', st2', z, st', hx, hy, sr2, v1, v2, hf, c⟩ => ?_)
      rw [h1] at hx; cases hx
      rw [h2] at hy; cases hy
      unfold oIn at hf
      rw [Option.map_eq_some_iff] at hf
      obtain ⟨k, e, hf⟩ := hf
      cases hf
      obtain ⟨a, o, rfl, g, rfl⟩ := tab_in sr2 v1 v2 e t
      exact ⟨a, o, rfl, g, c.same sr2 VR.bl⟩
    · refine .inl ((two_at er sr af).imp fun v H1 h => h.imp fun w H2 ⟨m2, x', st1', y', st2', z, st', hx, hy, sr2, v1, v2, hf, c⟩ => ?_)
      unfold oIn at hf
      rw [Option.map_eq_some_iff] at hf
      obtain ⟨k, e, hf⟩ := hf
      cases hf
      exact in_seq (neg := false) sr2 v1 v2 e (fun q => t ⟨_, _, _, _, hx, hy, q⟩) (c.same sr2 VR.bl)
theorem me_notIn (hu : X.A.units + 1 < cLine) (ha : PE X a (TV (pmOf X) W ea)) (hb : PE X b (TV (pmOf X) W eb)) (hm : behindInMarks .NotIn b = false) : PE X (.Compare a [.NotIn] [b] pos) (TV (pmOf X) W (eOp2 oNotIn ea eb)) :=
  ((pe_cmpR (op_notIn_seq.or L2.op_notIn_str) ha hb hm).or (pe_cmp (pc_dnotin hu ha hb) hm)).imp fun σ H Q ⟨m, ρ, st, er, sr, af⟩ => by
    by_cases t : ∃ x st1 y st2, ea ρ st = .ok x st1 ∧ eb ρ st1 = .ok y st2 ∧ isTab st2 y
    · obtain ⟨x, st1, y, st2, h1, h2, t⟩ := t
      refine .inr ((two_at er sr af).imp fun v H1 h => h.imp fun w H2 ⟨m2, x', st1', y', st2', z, st', hx, hy, sr2, v1, v2, hf, c⟩ => ?_)
      rw [h1] at hx; cases hx
      rw [h2] at hy; cases hy
      unfold oNotIn at hf
      rw [Option.map_eq_some_iff] at hf
      obtain ⟨k, e, hf⟩ := hf
      cases hf
      obtain ⟨a, o, rfl, g, rfl⟩ := tab_in sr2 v1 v2 e t
      exact ⟨a, o, rfl, g, c.same sr2 VR.bl⟩
    · refine .inl ((two_at er sr af).imp fun v H1 h => h.imp fun w H2 ⟨m2, x', st1', y', st2', z, st', hx, hy, sr2, v1, v2, hf, c⟩ => ?_)
      unfold oNotIn at hf
      rw [Option.map_eq_some_iff] at hf
      obtain ⟨k, e, hf⟩ := hf
      cases hf
      exact in_seq (neg := true) sr2 v1 v2 e (fun q => t ⟨_, _, _, _, hx, hy, q⟩) (c.same sr2 VR.bl)

/-! ### x[i] -/
def isTab' (st : Store) (y : Val) : Prop := ∃ r, y = .ref r ∧ ((∃ kvs, st[r]? = some (.dK kvs) ∨ st[r]? = some (.fK kvs)) ∨ ∃ kvs, st[r]? = some (.dT kvs) ∨ st[r]? = some (.fT kvs))
theorem me_ix (hu : X.A.units + 1 < cLine) (ha : PE X a (TV (pmOf X) W ea)) (hb : PE X b (TV (pmOf X) W eb)) (hs : PlainIx b) : PE X (.Subscript a b pos) (TV (pmOf X) W (eOp2 oIx ea eb)) :=
  ((pe_ix ix_seq ha hb hs).or (pe_dget hu ha hb hs)).imp fun σ H Q ⟨m, ρ, st, er, sr, af⟩ => by
    by_cases t : ∃ x st1 y st2, ea ρ st = .ok x st1 ∧ eb ρ st1 = .ok y st2 ∧ isTab' st2 x
    · obtain ⟨x, st1, y, st2, h1, h2, t⟩ := t
      refine .inr ((two_at er sr af).imp fun v H1 h => h.imp fun w H2 ⟨m2, x', st1', y', st2', z, st', hx, hy, sr2, v1, v2, hf, c⟩ => ?_)
      rw [h1] at hx; cases hx
      rw [h2] at hy; cases hy
      unfold oIx at hf
      rw [Option.map_eq_some_iff] at hf
      obtain ⟨k, e, hf⟩ := hf
      cases hf
      have go : ∀ o : Option Val, o = some z → (∃ a u, v = .ref a ∧ DGet H2 a w u ∧ ((o = none ∧ u = none) ∨ ∃ y z, o = some y ∧ u = some z ∧ VR (pmOf X).K H2 m2 y z)) → ∃ a v2, v = .ref a ∧ DGet H2 a w (some v2) ∧ Q v2 H2 := fun o ho ⟨a, u, h1, h2, h3⟩ => by
        rcases h3 with ⟨h4, _⟩ | ⟨y1, z1, h4, h5, h6⟩
        · rw [h4] at ho; cases ho
        · rw [h4] at ho; cases ho
          subst h5
          exact ⟨a, z1, h1, h2, c.same sr2 h6⟩
      obtain ⟨r, rfl, ⟨kvs, e1⟩ | ⟨kvs, e1⟩⟩ := t
      · unfold atIx at e
        rcases e1 with e1 | e1 <;> simp only [e1] at e
        · split at e
          · rename_i k hk
            exact go _ e (dget_at sr2 v1 v2 (.inl ⟨kvs, k, .inl e1, hk, rfl⟩))
          · cases e
        · split at e
          · rename_i k hk
            exact go _ e (dget_at sr2 v1 v2 (.inl ⟨kvs, k, .inr e1, hk, rfl⟩))
          · cases e
      · unfold atIx at e
        rcases e1 with e1 | e1 <;> simp only [e1] at e
        · split at e
          · split at e
            · rename_i xs _ k hk
              exact go _ e (dget_at sr2 v1 v2 (.inr ⟨kvs, k, xs, .inl e1, rfl, hk, rfl⟩))
            · cases e
          · cases e
        · split at e
          · split at e
            · rename_i xs _ k hk
              exact go _ e (dget_at sr2 v1 v2 (.inr ⟨kvs, k, xs, .inr e1, rfl, hk, rfl⟩))
            · cases e
          · cases e
    · refine .inl ((two_at er sr af).imp fun v H1 h => h.imp fun w H2 ⟨m2, x', st1', y', st2', z, st', hx, hy, sr2, v1, v2, hf, c⟩ => ?_)
      have nt : ¬ isTab' st2' x' := fun q => t ⟨_, _, _, _, hx, hy, q⟩
      unfold oIx at hf
      rw [Option.map_eq_some_iff] at hf
      obtain ⟨k, e, hf⟩ := hf
      cases hf
      unfold atIx at e
      split at e
      · split at e
        · obtain ⟨c1, vs, rfl, h1, h2⟩ := v1.tup_inv
          cases v2.int_eq
          obtain ⟨v, h3, h4⟩ := h2.atI e
          exact .inr (.inl ⟨c1, vs, _, v, rfl, rfl, h1, h3, c.same sr2 h4⟩)
        · cases e
      · split at e
        · split at e
          · rename_i hz
            cases v1.str_eq; cases v2.int_eq
            simp only [Option.map_eq_some_iff] at e
            obtain ⟨cc, e1, rfl⟩ := e
            exact .inr (.inr ⟨_, _, cc, rfl, rfl, hz, e1, c.same sr2 VR.str⟩)
          · cases e
        · cases e
      · rename_i r
        split at e
        · rename_i xs e1
          split at e
          · obtain ⟨c1, rfl, _, vs, h1, h2⟩ := sr2.deref e1 v1
            cases v2.int_eq
            obtain ⟨v, h3, h4⟩ := h2.atI e
            exact .inl ⟨c1, vs, _, v, rfl, rfl, SqL.of h1, h3, c.same sr2 h4⟩
          · cases e
        · rename_i xs e1
          split at e
          · obtain ⟨c1, rfl, _, vs, ob, h1, h2⟩ := sr2.deref e1 v1
            cases v2.int_eq
            obtain ⟨v, h3, h4⟩ := h2.atI e
            exact .inl ⟨c1, vs, _, v, rfl, rfl, .inl (.inr ⟨ob, h1⟩), h3, c.same sr2 h4⟩
          · cases e
        · rename_i kvs e1; exact (nt ⟨r, rfl, .inl ⟨_, .inl e1⟩⟩).elim
        · rename_i kvs e1; exact (nt ⟨r, rfl, .inr ⟨_, .inl e1⟩⟩).elim
        · rename_i kvs e1; exact (nt ⟨r, rfl, .inl ⟨_, .inr e1⟩⟩).elim
        · rename_i kvs e1; exact (nt ⟨r, rfl, .inr ⟨_, .inr e1⟩⟩).elim
        · cases e
      · cases e
end
end EV
namespace EV
open PySem PySem.Spec L2

/-! ### slices -/
section
variable {X : Cx} {W : WX} {pos p2 : Pos} {e : Expr} {lo hi : Option Expr} {ea : Ev} {el eh : Eo}
theorem mo_none : PO X none (TOp (pmOf X) W oNo) := po_none.imp fun σ H Q ⟨m, ρ, st, er, sr, af⟩ => af none H m (Ext.refl H m) rfl sr
theorem mo_some {e : Expr} (h : PE X e (TV (pmOf X) W ea)) : PO X (some e) (TOp (pmOf X) W (oSome ea)) := (po_some h).imp fun σ H Q ⟨m, ρ, st, er, sr, af⟩ => by
  refine ⟨m, ρ, st, er, sr, (Af.bind af).imp ?_⟩
  rintro v H1 ⟨m1, st1, x, e1, sr1, vr1, hx, af1⟩
  split at af1
  · cases vr1.int_eq
    exact ⟨_, rfl, af1 _ H1 m1 (Ext.refl _ _) rfl sr1⟩
  · exact af1.elim
theorem cut_whole {α : Type} {xs : List α} {lo hi : Option Int} (h : HT.sIx xs.length 0 lo = 0 ∧ HT.sIx xs.length xs.length hi = xs.length) : cutX xs lo hi = xs := by
  unfold cutX
  rw [h.1, h.2]
  simp
theorem me_sl (he : PE X e (TV (pmOf X) W ea)) (hl : PO X lo (TOp (pmOf X) W el)) (hh : PO X hi (TOp (pmOf X) W eh)) : PE X (.Subscript e (.Slice lo hi none p2) pos) (TV (pmOf X) W (eSl ea el eh)) :=
  (pe_slice (sl_tupA.or (sl_list.or sl_str)) he hl hh).imp fun σ H Q ⟨m, ρ, st, er, sr, af⟩ => by
    refine ⟨m, ρ, st, er, sr, (Af.bind af).imp ?_⟩
    rintro v H1 ⟨m1, st1, x, e1, sr1, vr1, hx, af1⟩
    refine ⟨m1, ρ, st1, er.mono e1, sr1, (Af.bind af1).imp ?_⟩
    rintro l H2 ⟨m2, st2, y, e2, sr2, vr2, hy, af2⟩
    refine ⟨m2, ρ, st2, (er.mono e1).mono e2, sr2, (Af.bind af2).imp ?_⟩
    rintro h H3 ⟨m3, st3, z, e3, sr3, vr3, hz, af3⟩
    have v1 := (vr1.mono e2).mono e3
    have hl : y = l := vr2
    have hh : z = h := vr3
    subst hl hh
    obtain ⟨w, st', hf, c⟩ := of_ofO af3
    unfold slOf at hf
    split at hf
    · rename_i ns
      cases hf
      obtain ⟨a, rfl, h1⟩ := v1.kl_inv
      refine .inr (.inl ⟨a, _, rfl, h1, fun b n => ?_⟩)
      obtain ⟨q1, q2, q3⟩ := new_lst sr3 n ((vrs_ints ns).cut y z)
      exact c _ _ _ q1 q2 q3
    · cases hf
      obtain ⟨a, vs, rfl, h1, h2⟩ := v1.tup_inv
      refine .inl ⟨a, vs, rfl, h1, fun q => ?_, fun q b n => ?_⟩
      · rw [h2.length] at q
        rw [cut_whole q] at c
        exact c.same sr3 v1
      · exact c _ _ m3 (Ext.fresh n _) (new_tup n (h2.cut y z)) (sr3.fresh n _)
    · split at hf
      · rename_i hz'
        cases hf
        cases v1.str_eq
        exact .inr (.inr ⟨_, rfl, hz', c.same sr3 VR.str⟩)
      · cases hf
    · split at hf
      · rename_i xs q
        cases hf
        obtain ⟨a, rfl, _, vs, h1, h2⟩ := sr3.deref q v1
        refine .inr (.inl ⟨a, vs, rfl, SqL.of h1, fun b n => ?_⟩)
        obtain ⟨q1, q2, q3⟩ := new_lst sr3 n (h2.cut y z)
        exact c _ _ _ q1 q2 q3
      · rename_i xs q
        cases hf
        obtain ⟨a, rfl, _, vs, ob, h1, h2⟩ := sr3.deref q v1
        refine .inr (.inl ⟨a, vs, rfl, .inl (.inr ⟨ob, h1⟩), fun b n => ?_⟩)
        obtain ⟨q1, q2, q3⟩ := new_lst sr3 n (h2.cut y z)
        exact c _ _ _ q1 q2 q3
      · cases hf
    · cases hf
theorem me_rev {k : Nat} {p1 p3 p4 : Pos} (he : PE X e (TV (pmOf X) W ea)) : PE X (.Subscript e (.Slice none none (some (.UnaryOp .USub (.Constant (.int 1) k p1) p3)) p4) pos) (TV (pmOf X) W (eOp1 oRev ea)) :=
  (pe_revL he).imp fun σ H Q ⟨m, ρ, st, er, sr, af⟩ => by
    refine ⟨m, ρ, st, er, sr, (Af.bind af).imp ?_⟩
    rintro v H1 ⟨m1, st1, x, e1, sr1, vr1, hx, af1⟩
    obtain ⟨w, st', hf, c⟩ := of_ofO af1
    unfold oRev at hf
    split at hf
    · split at hf
      · rename_i xs q
        cases hf
        obtain ⟨a, rfl, _, vs, h1, h2⟩ := sr1.deref q vr1
        refine ⟨a, vs, rfl, SqL.of h1, fun b n => ?_⟩
        obtain ⟨q1, q2, q3⟩ := new_lst sr1 n h2.reverse
        exact c _ _ _ q1 q2 q3
      · cases hf
    · cases hf
end

/-! ### built-in functions -/
section
variable {X : Cx}
theorem VRs.one {K : PySem.W.Frag} {H : Hp} {m : List Addr} {x : Val} {vs : List V} (h : VRs K H m [x] vs) : ∃ v, vs = [v] ∧ VR K H m x v := by
  obtain ⟨v, r, rfl, h1, h2⟩ := h.cons_inv
  rw [h2.nil_inv]
  exact ⟨v, rfl, h1⟩
theorem VRs.two {K : PySem.W.Frag} {H : Hp} {m : List Addr} {x y : Val} {vs : List V} (h : VRs K H m [x, y] vs) : ∃ v w, vs = [v, w] ∧ VR K H m x v ∧ VR K H m y w := by
  obtain ⟨v, r, rfl, h1, h2⟩ := h.cons_inv
  obtain ⟨w, rfl, h3⟩ := VRs.one h2
  exact ⟨v, w, rfl, h1, h3⟩
theorem c_len : CallR X (.builtin "len") (rON (pmOf X) nLen) := by
  intro pins s σ H vs us Q I r h
  obtain ⟨m, st, xs, z, st', S, hv, hf, c⟩ := h
  unfold nLen at hf
  split at hf
  · cases hf
    obtain ⟨v, rfl, h⟩ := hv.one
    obtain ⟨a, ws, rfl, h1, h2⟩ := h.tup_inv
    refine call_len pins s σ H _ us Q I r ⟨_, _, rfl, .inr ⟨ws, h1, rfl⟩, ?_⟩
    rw [h2.length]
    exact c.same S VR.int
  · split at hf
    · rename_i hz
      cases hf
      obtain ⟨v, rfl, h⟩ := hv.one
      cases h.str_eq
      exact call_len pins s σ H _ us Q I r ⟨_, _, rfl, ⟨hz, rfl⟩, c.same S VR.int⟩
    · cases hf
  · split at hf
    · rename_i ys q
      cases hf
      obtain ⟨v, rfl, h⟩ := hv.one
      obtain ⟨a, rfl, _, ws, h1, h2⟩ := S.deref q h
      refine call_len pins s σ H _ us Q I r ⟨_, _, rfl, .inl ⟨ws, SqL.of h1, rfl⟩, ?_⟩
      rw [h2.length]
      exact c.same S VR.int
    · rename_i ys q
      cases hf
      obtain ⟨v, rfl, h⟩ := hv.one
      obtain ⟨a, rfl, _, ws, ob, h1, h2⟩ := S.deref q h
      refine call_len pins s σ H _ us Q I r ⟨_, _, rfl, .inl ⟨ws, .inl (.inr ⟨ob, h1⟩), rfl⟩, ?_⟩
      rw [h2.length]
      exact c.same S VR.int
    · cases hf
  · cases hf
theorem c_abs : CallR X (.builtin "abs") (rON (pmOf X) nAbs) := by
  intro pins s σ H vs us Q I r h
  obtain ⟨m, st, xs, z, st', S, hv, hf, c⟩ := h
  unfold nAbs at hf
  split at hf
  · cases hf
    obtain ⟨v, rfl, h⟩ := hv.one
    cases h.int_eq
    exact call_abs pins s σ H _ us Q I r ⟨_, rfl, c.same S VR.int⟩
  · cases hf
theorem c_int : CallR X (.type "int") (rON (pmOf X) nInt) := by
  intro pins s σ H vs us Q I r h
  obtain ⟨m, st, xs, z, st', S, hv, hf, c⟩ := h
  unfold nInt at hf
  split at hf
  · cases hf
    obtain ⟨v, rfl, h⟩ := hv.one
    cases h.int_eq
    exact call_int1 pins s σ H _ us Q I r (.inl ⟨_, rfl, c.same S VR.int⟩)
  · cases hf
    obtain ⟨v, rfl, h⟩ := hv.one
    cases h.bl_eq
    exact call_int1 pins s σ H _ us Q I r (.inr ⟨_, rfl, c.same S VR.int⟩)
  · cases hf
theorem c_tuple : CallR X (.type "tuple") (rON (pmOf X) nTuple) := by
  intro pins s σ H vs us Q I r h
  obtain ⟨m, st, xs, z, st', S, hv, hf, c⟩ := h
  unfold nTuple at hf
  split at hf
  · cases hf
    obtain ⟨v, rfl, h⟩ := hv.one
    obtain ⟨a, ws, rfl, h1, h2⟩ := h.tup_inv
    exact call_tuple_of pins s σ H _ us Q I r ⟨a, ws, rfl, .inr ⟨h1, c.same S h⟩⟩
  · split at hf
    · rename_i ys q
      cases hf
      obtain ⟨v, rfl, h⟩ := hv.one
      obtain ⟨a, rfl, _, ws, h1, h2⟩ := S.deref q h
      exact call_tuple_of pins s σ H _ us Q I r ⟨a, ws, rfl, .inl ⟨SqL.of h1, fun b n => c _ _ m (Ext.fresh n _) (new_tup n h2) (S.fresh n _)⟩⟩
    · cases hf
  · cases hf
theorem c_list : CallR X (.type "list") (rON (pmOf X) nList) := by
  intro pins s σ H vs us Q I r h
  obtain ⟨m, st, xs, z, st', S, hv, hf, c⟩ := h
  unfold nList at hf
  split at hf
  · cases hf
    obtain ⟨v, rfl, h⟩ := hv.one
    obtain ⟨a, ws, rfl, h1, h2⟩ := h.tup_inv
    refine call_list_of pins s σ H _ us Q I r ⟨a, ws, rfl, .inr h1, fun b n => ?_⟩
    obtain ⟨q1, q2, q3⟩ := new_lst S n h2
    exact c _ _ _ q1 q2 q3
  · split at hf
    · rename_i ys q
      cases hf
      obtain ⟨v, rfl, h⟩ := hv.one
      obtain ⟨a, rfl, _, ws, h1, h2⟩ := S.deref q h
      refine call_list_of pins s σ H _ us Q I r ⟨a, ws, rfl, .inl (SqL.of h1), fun b n => ?_⟩
      obtain ⟨q1, q2, q3⟩ := new_lst S n h2
      exact c _ _ _ q1 q2 q3
    · cases hf
  · cases hf
theorem ints_rel {K : PySem.W.Frag} {H : Hp} {m : List Addr} : ∀ {xs : List Val} {ns : List Int} {vs : List V}, intsOf xs = some ns → VRs K H m xs vs → vs = ns.map V.int
  | [], ns, vs, e, h => by simp only [intsOf, Option.some.injEq] at e; subst e; exact h.nil_inv
  | x :: xs, ns, vs, e, h => by
    cases x <;> simp only [intsOf, reduceCtorEq, Option.map_eq_some_iff] at e
    obtain ⟨ks, e1, rfl⟩ := e
    obtain ⟨v, r, rfl, h1, h2⟩ := h.cons_inv
    rw [h1.int_eq, ints_rel e1 h2]; rfl
theorem c_sum (hc : X.calm = true) : CallR X (.builtin "sum") (rON (pmOf X) nSum) := by
  intro pins s σ H vs us Q I r h
  obtain ⟨m, st, xs, z, st', S, hv, hf, c⟩ := h
  unfold nSum at hf
  split at hf
  · split at hf
    · rename_i ys q
      rw [Option.map_eq_some_iff] at hf
      obtain ⟨ns, e, hf⟩ := hf
      cases hf
      obtain ⟨v, rfl, h⟩ := hv.one
      obtain ⟨a, rfl, _, ws, h1, h2⟩ := S.deref q h
      have := ints_rel e h2
      subst this
      exact cr_sum hc pins s σ H _ us Q I r ⟨a, ns, rfl, SqL.of h1, c.same S VR.int⟩
    · cases hf
  · cases hf
theorem ty_rel {p : Pm} {H : Hp} {m : List Addr} {st : Store} {x : Val} {v : V} {t : String} (S : SR p H m st) (h : VR p.K H m x v) (e : tyOf st x = some t) : TyX p.K H v (.type t) := by
  unfold tyOf at e
  split at e
  · cases e; rw [h.non_eq]; exact .base .non
  · cases e; rw [h.bl_eq]; exact .base (.bl _)
  · cases e; rw [h.int_eq]; exact .base (.int _)
  · cases e; rw [h.str_eq]; exact .base (.str _)
  · cases e
    obtain ⟨a, vs, rfl, h1, _⟩ := h.tup_at
    exact .base (.tup h1)
  · split at e
    · rename_i q
      cases e
      obtain ⟨a, rfl, _, ws, h1, h2⟩ := S.deref q h
      exact .base (.lst h1)
    · rename_i q
      cases e
      obtain ⟨a, rfl, _, ws, ob, h1, h2⟩ := S.deref q h
      exact .base (.frz h1)
    · rename_i q
      cases e
      obtain ⟨a, rfl, _, ws, h1, h2⟩ := S.deref q h
      exact .base (.dK h1)
    · rename_i q
      cases e
      obtain ⟨a, rfl, _, ws, h1, h2⟩ := S.deref q h
      exact .base (.dT h1)
    · cases e
  · cases e
  · cases e
def tyTab : List (String × String × Bool) := ["NoneType", "bool", "int", "str", "tuple", "list", "dict"].flatMap fun a => (["int", "str", "tuple", "bool", "list", "dict"].filterMap fun b => (isTy a b).map fun k => (a, b, k))
theorem tyTab_ok : ∀ q ∈ tyTab, kitB q.1 q.2.1 = some q.2.2 := by decide +kernel
theorem tyOf_mem {st : Store} {x : Val} {t : String} (e : tyOf st x = some t) : t ∈ ["NoneType", "bool", "int", "str", "tuple", "list", "dict"] := by
  unfold tyOf at e
  split at e <;> (try (split at e)) <;> cases e <;> simp
theorem isTy_mem {t n : String} {b : Bool} (ht : t ∈ ["NoneType", "bool", "int", "str", "tuple", "list", "dict"]) (e : isTy t n = some b) : kitB t n = some b ∨ t = n := by
  by_cases hn : n ∈ ["int", "str", "tuple", "bool", "list", "dict"]
  · left
    exact tyTab_ok (t, n, b) (List.mem_flatMap.mpr ⟨t, ht, List.mem_filterMap.mpr ⟨n, hn, by rw [e]; rfl⟩⟩)
  · right
    unfold isTy at e
    split at e
    · assumption
    · exfalso
      split at e
      · rename_i h; rw [h.2] at hn; simp at hn
      · split at e
        · rename_i h
          simp only [List.mem_cons, List.not_mem_nil, or_false, not_or] at hn
          rcases h with h | h | h | h | h | h <;> simp [h] at hn
        · cases e
theorem c_isi : CallR X (.builtin "isinstance") (rON (pmOf X) nIsi) := by
  intro pins s σ H vs us Q I r h
  obtain ⟨m, st, xs, z, st', S, hv, hf, c⟩ := h
  unfold nIsi at hf
  split at hf
  · rename_i x n
    split at hf
    · rename_i t e
      rw [Option.map_eq_some_iff] at hf
      obtain ⟨b, e2, hf⟩ := hf
      cases hf
      obtain ⟨v, w, rfl, h1, h2⟩ := hv.two
      cases h2.ty_eq
      refine call_isi pins s σ H _ us Q I r ⟨v, .ty n, .type t, .type n, b, rfl, .ty n, ty_rel S h1 e, ?_, c.same S VR.bl⟩
      rcases isTy_mem (tyOf_mem e) e2 with q | q
      · exact kit_ty q
      · subst q
        have hb : b = true := by simpa [isTy] using e2.symm
        subst hb
        exact kit_ty (by unfold kitB; simp)
    · cases hf
  · cases hf
theorem c_repr (hg : X.A.guards = some []) (hu : X.A.units + 70 < cLine) : CallR X (.builtin "repr") (rON (pmOf X) nRepr) := by
  intro pins s σ H vs us Q I r h
  obtain ⟨m, st, xs, z, st', S, hv, hf, c⟩ := h
  unfold nRepr at hf
  split at hf
  · split at hf
    · rename_i x ho
      split at hf
      · rename_i d e
        split at hf
        · rename_i hd
          cases hf
          obtain ⟨v, rfl, h⟩ := hv.one
          obtain ⟨u, rfl, rv⟩ := vals1 r
          obtain ⟨as, rd⟩ := Dp.reads I d v u (dpAt_of S e h) rv
          have hr : ∃ a, u = .ref a := by
            cases x with
            | tup ys => obtain ⟨a, vs, rfl, _⟩ := h.tup_at; cases rv; exact ⟨_, rfl⟩
            | ref q => unfold VR at h; obtain ⟨a, _, rfl⟩ := h; cases rv; exact ⟨_, rfl⟩
            | _ => cases ho
          obtain ⟨a, rfl⟩ := hr
          refine repr_of_reads' rd hd.1 (fun q => by rw [hd.2.1] at q; cases q) hg (by omega) (fun _ _ q => q) (fun h' u tk k => ?_) hd.2.2.1
          exact ⟨.str d.shown, H, I.kept k, ⟨_, rfl⟩, c.same S VR.str⟩
        · cases hf
      · cases hf
    · cases hf
  · cases hf
end
section
variable {X : Cx} {W : WX} {x : Str} {p pos : Pos} {e : Expr} {es : List Expr} {l : El} {f : OpN} {id : String}
theorem me_callB (hc : CallR X (.builtin id) (rON (pmOf X) f)) (hg : Gl X x) (hm : X.mg x = none) (hv : bootBuiltins x = some (.builtin id)) (ha : PA X (e :: es) (TL (pmOf X) W l)) (hn : x ≠ "__name__" := by decide) (hdb : (x == ("__debug__" : Str)) = false := by decide)
    (he : starEach (e :: es) X.env = (false, eval e X.env) :: starEach es X.env := by rfl) (hpl : (backTo pos (starEach es X.env)).any (·.1) = false := by rfl) : PE X (.Call (.Name x p) (e :: es) [] pos) (TV (pmOf X) W (eOpN f l)) :=
  (pe_callB hc hg hm hv ha hn hdb he hpl).imp fun _ _ _ h => opN_imp h
theorem me_callTy {T : String} (hc : CallR X (.type T) (rON (pmOf X) f)) (hg : Gl X x) (hm : X.mg x = none) (hv : bootBuiltins x = some (.type T)) (ha : PA X (e :: es) (TL (pmOf X) W l)) (hn : x ≠ "__name__" := by decide) (hdb : (x == ("__debug__" : Str)) = false := by decide)
    (he : starEach (e :: es) X.env = (false, eval e X.env) :: starEach es X.env := by rfl) (hpl : (backTo pos (starEach es X.env)).any (·.1) = false := by rfl) : PE X (.Call (.Name x p) (e :: es) [] pos) (TV (pmOf X) W (eOpN f l)) :=
  (pe_callTy hc hg hm hv ha hn hdb he hpl).imp fun _ _ _ h => opN_imp h
/-- the name of a built-in type as a value -/
theorem me_ty {n : String} (hg : Gl X x) (hm : X.mg x = none) (hv : bootBuiltins x = some (.type n)) (hn : x ≠ "__name__" := by decide) (hdb : (x == ("__debug__" : Str)) = false := by decide) : PE X (.Name x pos) (TV (pmOf X) W (eC (.ty n))) :=
  me_c (pe_bltn (v := .ty n) hg hm hv rfl hn hdb) fun _ _ _ => VR.ty
/-- a module's constant -/
theorem me_glob {v : V} {u : Value} {c : Val} (hg : Gl X x) (hm : X.mg x = some u) (r : RelV v u) (hv : ∀ K H m, VR K H m c v) (hdb : (x == ("__debug__" : Str)) = false := by decide) : PE X (.Name x pos) (TV (pmOf X) W (eC c)) :=
  me_c (pe_glob hg hm r hdb) hv
end

/-! ### methods of lists -/
section
variable {X : Cx} {W : WX}
theorem write_lst {p : Pm} {H : Hp} {m : List Addr} {st : Store} {r : Nat} {a : Addr} {ys : List Val} {ws w0 : List V} (S : SR p H m st) (ha : m[r]? = some a) (h0 : H a = some (.lst w0)) (h : VRs p.K H m ys ws) :
    Ext H (upd H a (.lst ws)) m m ∧ SR p (upd H a (.lst ws)) m (st.set r (.lst ys)) := by
  have e := Ext.write (o := .lst ws) ha S fun q x z => by rw [h0] at z; cases z
  exact ⟨e, S.write ha ⟨ws, upd_same, h.mono e⟩⟩
theorem m_append : MtM X "list.append" (rOM (pmOf X) mAppend) := by
  intro pins s σ H x vs v us Q I rx r h
  obtain ⟨m, st, a, xs, z, st', S, ha, hv, hf, c⟩ := h
  unfold mAppend at hf
  split at hf
  · split at hf
    · rename_i ys q
      split at hf
      · rename_i hz
        cases hf
        obtain ⟨y, rfl, hy⟩ := hv.one
        obtain ⟨b, rfl, hb, ws, h1, h2⟩ := S.deref q ha
        obtain ⟨e, S'⟩ := write_lst S hb h1 (h2.append (VRs.cons hy VRs.nil))
        exact mt_append pins s σ H _ _ v us Q I rx r ⟨b, ws, y, rfl, rfl, h1, by rw [h2.length]; exact hz, c _ _ m e VR.non S'⟩
      · cases hf
    · cases hf
  · cases hf
theorem pop_last {ys : List Val} {ws : List V} {K : PySem.W.Frag} {H : Hp} {m : List Addr} {y : Val} (h : VRs K H m ys ws) (e : ys.getLast? = some y) : ∃ w, ws[ws.length - 1]? = some w ∧ VR K H m y w := by
  rw [List.getLast?_eq_getElem?] at e
  rw [h.length]
  exact h.get e
theorem m_pop : MtM X "list.pop" (rOM (pmOf X) mPop) := by
  intro pins s σ H x vs v us Q I rx r h
  obtain ⟨m, st, a, xs, z, st', S, ha, hv, hf, c⟩ := h
  unfold mPop at hf
  split at hf
  · split at hf
    · rename_i ys q
      split at hf
      · rename_i y ey
        cases hf
        have := hv.nil_inv
        subst this
        obtain ⟨b, rfl, hb, ws, h1, h2⟩ := S.deref q ha
        obtain ⟨w, h3, h4⟩ := pop_last h2 ey
        obtain ⟨e, S'⟩ := write_lst S hb h1 h2.dropLast
        exact mt_pop pins s σ H _ _ v us Q I rx r ⟨b, ws, w, rfl, rfl, h1, h3, c _ _ m e (h4.mono e) S'⟩
      · cases hf
    · cases hf
  · split at hf
    · rename_i ys q
      split at hf
      · rename_i hz
        split at hf
        · rename_i k ek
          split at hf
          · rename_i y ey
            cases hf
            obtain ⟨y', rfl, hy⟩ := hv.one
            cases hy.int_eq
            obtain ⟨b, rfl, hb, ws, h1, h2⟩ := S.deref q ha
            obtain ⟨w, h3, h4⟩ := h2.get ey
            obtain ⟨e, S'⟩ := write_lst S hb h1 (h2.eraseIdx k)
            exact mt_popAt pins s σ H _ _ v us Q I rx r ⟨b, ws, _, k, w, rfl, rfl, h1, hz.1, hz.2, by rw [h2.length]; exact ek, h3, c _ _ m e (h4.mono e) S'⟩
          · cases hf
        · cases hf
      · cases hf
    · cases hf
  · cases hf
variable {pos apos : Pos} {o e : Expr} {es : List Expr} {eo : Ev} {l : El} {f : Val → OpN} {name : Str} {id : String}
theorem isLst_ty {p : Pm} {H : Hp} {m : List Addr} {st : Store} {x : Val} {v : V} (S : SR p H m st) (h : VR p.K H m x v) (e : isLst st x = true) : tyV p.K "list" v H := by
  unfold isLst at e
  split at e
  · split at e
    · rename_i q
      obtain ⟨b, rfl, hb, ws, h1, h2⟩ := S.deref q h
      exact .inl ⟨rfl, ws, SqL.of h1⟩
    · cases e
  · cases e
theorem me_meth (slot : Slot "list" name id) (hty : typeOf (.builtin id) = pure (.type "method_descriptor")) (hm : MtM X id (rOM (pmOf X) f)) (ho : PE X o (TV (pmOf X) W eo)) (ha : PA X (e :: es) (TL (pmOf X) W l))
    (hbase : attributeBase o name X.env (eval o X.env) = eval o X.env := by rfl)
    (hfew : ((backTo pos (starEach (e :: es) X.env)).all (fun x => !x.1) && (backToKw pos (keywordEach [] X.env)).all (fun x => x.1.isSome)
      && decide ((e :: es).length + ([] : List Keyword).length + (if ([] : List Keyword).isEmpty then 0 else 1) < 30)) = true := by rfl)
    (hline : (apos.endLine == pos.line) = true := by rfl) (hs : starEach (e :: es) X.env = (false, eval e X.env) :: starEach es X.env := by rfl) (hplain : (backTo pos (starEach es X.env)).any (·.1) = false := by rfl) :
    PE X (.Call (.Attribute o name apos) (e :: es) [] pos) (TV (pmOf X) W (eMeth f eo l)) :=
  (pe_bm PySem.F.plainAttrs_list slot hty hm ho ha hbase hfew hline hs hplain).imp fun σ H Q ⟨m, ρ, st, er, sr, af⟩ => by
    refine ⟨m, ρ, st, er, sr, (Af.bind af).imp ?_⟩
    rintro v H1 ⟨m1, st1, x, e1, sr1, vr1, hx, af1⟩
    split at af1
    · rename_i hl
      refine ⟨isLst_ty sr1 vr1 hl, m1, ρ, st1, er.mono e1, sr1, (Af.bind af1).imp ?_⟩
      rintro w H2 ⟨m2, st2, y, e2, sr2, vr2, hy, af2⟩
      obtain ⟨z, st', hf, c⟩ := of_ofO af2
      exact ⟨m2, st2, x, y, z, st', sr2, vr1.mono e2, vr2, hf, c⟩
    · exact af1.elim
theorem me_meth0 (slot : Slot "list" name id) (hty : typeOf (.builtin id) = pure (.type "method_descriptor")) (hm : MtM X id (rOM (pmOf X) f)) (ho : PE X o (TV (pmOf X) W eo))
    (hbase : attributeBase o name X.env (eval o X.env) = eval o X.env := by rfl) (hline : (apos.endLine == pos.line) = true := by rfl) : PE X (.Call (.Attribute o name apos) [] [] pos) (TV (pmOf X) W (eMeth f eo lNil)) :=
  (pe_bm0 PySem.F.plainAttrs_list slot hty hm ho hbase hline).imp fun σ H Q ⟨m, ρ, st, er, sr, af⟩ => by
    refine ⟨m, ρ, st, er, sr, (Af.bind af).imp ?_⟩
    rintro v H1 ⟨m1, st1, x, e1, sr1, vr1, hx, af1⟩
    split at af1
    · rename_i hl
      refine ⟨isLst_ty sr1 vr1 hl, ?_⟩
      obtain ⟨z, st', hf, c⟩ := of_ofO (r := f x [] st1) (show Af _ _ W σ H1 m1 Q _ from af1)
      exact ⟨m1, st1, x, [], z, st', sr1, vr1, VRs.nil, hf, c⟩
    · exact af1.elim
theorem me_append (ho : PE X o (TV (pmOf X) W eo)) (ha : PA X [e] (TL (pmOf X) W l)) (hbase : attributeBase o "append" X.env (eval o X.env) = eval o X.env := by rfl)
    (hfew : ((backTo pos (starEach [e] X.env)).all (fun x => !x.1) && (backToKw pos (keywordEach [] X.env)).all (fun x => x.1.isSome)
      && decide ([e].length + ([] : List Keyword).length + (if ([] : List Keyword).isEmpty then 0 else 1) < 30)) = true := by rfl)
    (hline : (apos.endLine == pos.line) = true := by rfl) (hs : starEach [e] X.env = (false, eval e X.env) :: starEach [] X.env := by rfl) (hplain : (backTo pos (starEach [] X.env)).any (·.1) = false := by rfl) :
    PE X (.Call (.Attribute o "append" apos) [e] [] pos) (TV (pmOf X) W (eMeth mAppend eo l)) := me_meth PySem.F.slot_list_append PySem.F.type_list_append m_append ho ha hbase hfew hline hs hplain
theorem me_popAt (ho : PE X o (TV (pmOf X) W eo)) (ha : PA X [e] (TL (pmOf X) W l)) (hbase : attributeBase o "pop" X.env (eval o X.env) = eval o X.env := by rfl)
    (hfew : ((backTo pos (starEach [e] X.env)).all (fun x => !x.1) && (backToKw pos (keywordEach [] X.env)).all (fun x => x.1.isSome)
      && decide ([e].length + ([] : List Keyword).length + (if ([] : List Keyword).isEmpty then 0 else 1) < 30)) = true := by rfl)
    (hline : (apos.endLine == pos.line) = true := by rfl) (hs : starEach [e] X.env = (false, eval e X.env) :: starEach [] X.env := by rfl) (hplain : (backTo pos (starEach [] X.env)).any (·.1) = false := by rfl) :
    PE X (.Call (.Attribute o "pop" apos) [e] [] pos) (TV (pmOf X) W (eMeth mPop eo l)) := me_meth PySem.F.slot_list_pop PySem.F.type_list_pop m_pop ho ha hbase hfew hline hs hplain
theorem me_pop (ho : PE X o (TV (pmOf X) W eo)) (hbase : attributeBase o "pop" X.env (eval o X.env) = eval o X.env := by rfl) (hline : (apos.endLine == pos.line) = true := by rfl) :
    PE X (.Call (.Attribute o "pop" apos) [] [] pos) (TV (pmOf X) W (eMeth mPop eo lNil)) := me_meth0 PySem.F.slot_list_pop PySem.F.type_list_pop m_pop ho hbase hline
end
end EV
namespace EV
open PySem PySem.Spec L2
open PySem.AutoSeq1 in
theorem ext_tup (l b : Addr) (xs ys : Array Value) (n k : Nat) (dd : Option Addr) (sl : Array (Option Value)) (c0 : ¬(!xs.isEmpty && Builtin.List.listTooLong (xs.size + ys.size)) = true) (c1 : xs.size ≤ sizeLine) (c2 : xs.size + ys.size ≤ sizeLine + 1) :
    Meets (Builtin.«list.extend» ⟨[.ref l, .ref b], []⟩) (fun _ R s => s.heap.get? l = some { cls := .type "list", data := .seq xs n } ∧
      s.heap.get? b = some { cls := .type "tuple", dict := dd, data := .seq ys k, slots := sl } ∧ R (.ok (.ret Value.none)) { s with heap := s.heap.update l (Obj.mapSeq fun x => x ++ ys), toks := s.toks }) :=
  .of_wp fun prog w A R s h => by
    obtain ⟨h1, h2, h3, h4, h5⟩ := s
    obtain ⟨q1, q2, q3⟩ := h
    have g1 := idx_int
    have g2 := sub_tuple_tuple
    have g3 := sub_list_list
    have g4 := sub_tuple_list
    have g5 := sub_list_tuple
    have z : (xs ++ ys).size ≤ sizeLine + 1 := by rw [Array.size_append]; exact c2
    wp_walk using (wpAny_updateSeq q1 rfl (hz := c1) (_hz' := z)), wpAny_loadPart' q1, wpAny_loadPart' q2
    exact ⟨_, rfl, q3⟩
section
variable {X : Cx}
theorem m_ext_tup : MtM X "list.extend" (fun x vs H Q => ∃ l b xs zs, x = .ref l ∧ vs = [.ref b] ∧ H l = some (.lst xs) ∧ H b = some (.tup zs) ∧ xs.length + zs.length ≤ sizeLine ∧ Q .non (upd H l (.lst (xs ++ zs)))) := by
  intro pins s σ H x vs v us Q I rx rv h
  obtain ⟨l, b, xs, zs, rfl, rfl, hH, hB, hz, q⟩ := h
  cases rx
  obtain ⟨u, rfl, ru⟩ := rv.one
  cases ru
  obtain ⟨z, its, n, r, hl, e⟩ := I.lstM hH
  obtain ⟨its2, r2, ⟨⟨oc, od, dt, sl⟩, e2, ec, n2, ed⟩, _⟩ := I.tuple (SqT.of hB)
  simp only at ec ed
  subst ec ed
  have hl2 := r2.length
  have a1 : its.toArray.size + its2.toArray.size ≤ sizeLine := by simp only [List.size_toArray]; omega
  have a2 : ¬ (!its.toArray.isEmpty && Builtin.List.listTooLong (its.toArray.size + its2.toArray.size)) = true := by
    rw [notLongL a1]; simp
  refine call_meets F.slot_list_extend ⟨_, e, rfl⟩ F.entry_list_extend (F.args_list_extend_2 _ _)
    (ext_tup l b its.toArray its2.toArray n n2 od sl a2 (by omega) (by omega)) ⟨e, e2, ?_⟩
  refine ⟨.non, _, I.lset (its' := its ++ its2) hH e (by simp) (r.append r2) ?_, rfl, q⟩
  rw [List.length_append]
  omega
theorem m_extend : MtM X "list.extend" (rOM (pmOf X) mExtend) := by
  intro pins s σ H x vs v us Q I rx r h
  obtain ⟨m, st, a, xs, z, st', S, ha, hv, hf, c⟩ := h
  unfold mExtend at hf
  split at hf
  · split at hf
    · rename_i ys zs q1 q2
      split at hf
      · rename_i hz
        cases hf
        obtain ⟨y, rfl, hy⟩ := hv.one
        obtain ⟨b, rfl, hb, ws, h1, h2⟩ := S.deref q1 ha
        obtain ⟨b2, rfl, _, ws2, h3, h4⟩ := S.deref q2 hy
        obtain ⟨e, S'⟩ := write_lst S hb h1 (h2.append h4)
        exact mt_extend pins s σ H _ _ v us Q I rx r ⟨b, b2, ws, ws2, rfl, rfl, h1, h3, by rw [h2.length, h4.length]; exact hz, c _ _ m e VR.non S'⟩
      · cases hf
    · cases hf
  · split at hf
    · rename_i ys q1
      split at hf
      · rename_i hz
        cases hf
        obtain ⟨y, rfl, hy⟩ := hv.one
        obtain ⟨b, rfl, hb, ws, h1, h2⟩ := S.deref q1 ha
        obtain ⟨b2, ws2, rfl, h3, h4⟩ := hy.tup_at
        obtain ⟨e, S'⟩ := write_lst S hb h1 (h2.append h4)
        exact m_ext_tup pins s σ H _ _ v us Q I rx r ⟨b, b2, ws, ws2, rfl, rfl, h1, h3, by rw [h2.length, h4.length]; exact hz, c _ _ m e VR.non S'⟩
      · cases hf
    · cases hf
  · cases hf
end
section
variable {X : Cx} {W : WX} {pos apos : Pos} {o e : Expr} {eo : Ev} {l : El}
theorem me_extend (ho : PE X o (TV (pmOf X) W eo)) (ha : PA X [e] (TL (pmOf X) W l)) (hbase : attributeBase o "extend" X.env (eval o X.env) = eval o X.env := by rfl)
    (hfew : ((backTo pos (starEach [e] X.env)).all (fun x => !x.1) && (backToKw pos (keywordEach [] X.env)).all (fun x => x.1.isSome)
      && decide ([e].length + ([] : List Keyword).length + (if ([] : List Keyword).isEmpty then 0 else 1) < 30)) = true := by rfl)
    (hline : (apos.endLine == pos.line) = true := by rfl) (hs : starEach [e] X.env = (false, eval e X.env) :: starEach [] X.env := by rfl) (hplain : (backTo pos (starEach [] X.env)).any (·.1) = false := by rfl) :
    PE X (.Call (.Attribute o "extend" apos) [e] [] pos) (TV (pmOf X) W (eMeth mExtend eo l)) := me_meth PySem.F.slot_list_extend PySem.F.type_list_extend m_extend ho ha hbase hfew hline hs hplain
end

/-! ### tests, and, or, not, if .. else -/
section
variable {X : Cx} {W : WX} {pos : Pos} {a b c : Expr} {rest : List Expr} {ea eb : Ev} {ta tb : Et}
theorem tOf_imp {p : Pm} {σ : L2.St} {H : Hp} {Q : Bool → Hp → Prop} (h : TBl p W (tOf ea) σ H Q) : TV p W ea σ H fun x H1 => ∃ k, x = .bl k ∧ Q k H1 := by
  obtain ⟨m, ρ, st, er, sr, af⟩ := h
  refine ⟨m, ρ, st, er, sr, (Af.bind af).imp ?_⟩
  rintro v H1 ⟨m1, st1, x, e1, sr1, vr1, hx, af1⟩
  split at af1
  · cases vr1.bl_eq
    exact ⟨_, rfl, af1 _ H1 m1 (Ext.refl _ _) rfl sr1⟩
  · exact af1.elim
/-- a value that is a bool, as a test: a name, a call, .. -/
theorem mt_val (h : PE X a (TV (pmOf X) W ea)) (he : ∀ whole, isTrue a X.env whole = (do let v ← whole; standAt a.pos; holding [v] (truthy v)) := by intro _; rfl) : PT X a (TBl (pmOf X) W (tOf ea)) :=
  (pt_val h he).imp fun _ _ _ h => tOf_imp h
theorem isTrue_cmp {op : CmpOp} (h : PE X (.Compare a [op] [b] pos) (TV (pmOf X) W ea)) : True := True.intro
theorem mt_cmp {op : CmpOp} {f : Op2} (ho : OpR X (compareOp op) (rO2 (pmOf X) f)) (ha : PE X a (TV (pmOf X) W ea)) (hb : PE X b (TV (pmOf X) W eb)) (hm : behindInMarks op b = false) : PT X (.Compare a [op] [b] pos) (TBl (pmOf X) W (tOf (eOp2 f ea eb))) :=
  (pt_cmpR ho ha hb hm).imp fun _ _ _ h => op2_imp (tOf_imp h)
theorem mt_isNone {j : Nat} {p1 : Pos} (ha : PE X a (TV (pmOf X) W ea)) : PT X (.Compare a [.Is] [.Constant .none j p1] pos) (TBl (pmOf X) W (tOf (eOp1 oIsNone ea))) :=
  (pt_cmpR op_isN ha pe_non (nomark _)).imp fun σ H Q h => by
    obtain ⟨m, ρ, st, er, sr, af⟩ := tOf_imp h
    refine ⟨m, ρ, st, er, sr, (Af.bind af).imp ?_⟩
    rintro v H1 ⟨m1, st1, x, e1, sr1, vr1, hx, af1⟩
    obtain ⟨z, st', hf, c⟩ := of_ofO af1
    cases hf
    refine ⟨rfl, ?_⟩
    rw [← isNon_rel vr1]
    exact c.same sr1 VR.bl
theorem mt_notNone {j : Nat} {p1 : Pos} (ha : PE X a (TV (pmOf X) W ea)) : PT X (.Compare a [.IsNot] [.Constant .none j p1] pos) (TBl (pmOf X) W (tOf (eOp1 oNotNone ea))) :=
  (pt_cmpR op_notN ha pe_non (nomark _)).imp fun σ H Q h => by
    obtain ⟨m, ρ, st, er, sr, af⟩ := tOf_imp h
    refine ⟨m, ρ, st, er, sr, (Af.bind af).imp ?_⟩
    rintro v H1 ⟨m1, st1, x, e1, sr1, vr1, hx, af1⟩
    obtain ⟨z, st', hf, c⟩ := of_ofO af1
    cases hf
    refine ⟨rfl, ?_⟩
    rw [← isNon_rel vr1]
    exact c.same sr1 VR.bl
theorem _root_.L2.PT.or {e : Expr} {t t' : TT} (h : PT X e t) (h' : PT X e t') : PT X e (fun σ H Q => t σ H Q ∨ t' σ H Q) :=
  ⟨fun pins s σ H Q I q => q.elim (h.run pins s σ H Q I) (h'.run pins s σ H Q I)⟩
theorem mt_in (hu : X.A.units + 1 < cLine) (ha : PE X a (TV (pmOf X) W ea)) (hb : PE X b (TV (pmOf X) W eb)) (hm : behindInMarks .In b = false) : PT X (.Compare a [.In] [b] pos) (TBl (pmOf X) W (tOf (eOp2 oIn ea eb))) :=
  ((pt_cmpR (op_in_seq.or op_in_str) ha hb hm).or (pt_cmp (pc_din hu ha hb) hm)).imp fun σ H Q h => by
    obtain ⟨m, ρ, st, er, sr, af⟩ := tOf_imp h
    by_cases t : ∃ x st1 y st2, ea ρ st = .ok x st1 ∧ eb ρ st1 = .ok y st2 ∧ isTab st2 y
    · obtain ⟨x, st1, y, st2, h1, h2, t⟩ := t
      refine .inr ((two_at er sr af).imp fun v H1 h => h.imp fun w H2 ⟨m2, x', st1', y', st2', z, st', hx, hy, sr2, v1, v2, hf, c⟩ => ?_)
      rw [h1] at hx; cases hx
      rw [h2] at hy; cases hy
      unfold oIn at hf
      rw [Option.map_eq_some_iff] at hf
      obtain ⟨k, e, hf⟩ := hf
      cases hf
      obtain ⟨a, o, rfl, g, rfl⟩ := tab_in sr2 v1 v2 e t
      exact ⟨a, o, rfl, g, c.same sr2 VR.bl⟩
    · refine .inl ((two_at er sr af).imp fun v H1 h => h.imp fun w H2 ⟨m2, x', st1', y', st2', z, st', hx, hy, sr2, v1, v2, hf, c⟩ => ?_)
      unfold oIn at hf
      rw [Option.map_eq_some_iff] at hf
      obtain ⟨k, e, hf⟩ := hf
      cases hf
      exact in_seq (neg := false) (Q := fun x H' => ∃ k, x = .bl k ∧ Q k H') sr2 v1 v2 e (fun q => t ⟨_, _, _, _, hx, hy, q⟩) (c.same sr2 VR.bl)
theorem mt_notIn (hu : X.A.units + 1 < cLine) (ha : PE X a (TV (pmOf X) W ea)) (hb : PE X b (TV (pmOf X) W eb)) (hm : behindInMarks .NotIn b = false) : PT X (.Compare a [.NotIn] [b] pos) (TBl (pmOf X) W (tOf (eOp2 oNotIn ea eb))) :=
  ((pt_cmpR (op_notIn_seq.or L2.op_notIn_str) ha hb hm).or (pt_cmp (pc_dnotin hu ha hb) hm)).imp fun σ H Q h => by
    obtain ⟨m, ρ, st, er, sr, af⟩ := tOf_imp h
    by_cases t : ∃ x st1 y st2, ea ρ st = .ok x st1 ∧ eb ρ st1 = .ok y st2 ∧ isTab st2 y
    · obtain ⟨x, st1, y, st2, h1, h2, t⟩ := t
      refine .inr ((two_at er sr af).imp fun v H1 h => h.imp fun w H2 ⟨m2, x', st1', y', st2', z, st', hx, hy, sr2, v1, v2, hf, c⟩ => ?_)
      rw [h1] at hx; cases hx
      rw [h2] at hy; cases hy
      unfold oNotIn at hf
      rw [Option.map_eq_some_iff] at hf
      obtain ⟨k, e, hf⟩ := hf
      cases hf
      obtain ⟨a, o, rfl, g, rfl⟩ := tab_in sr2 v1 v2 e t
      exact ⟨a, o, rfl, g, c.same sr2 VR.bl⟩
    · refine .inl ((two_at er sr af).imp fun v H1 h => h.imp fun w H2 ⟨m2, x', st1', y', st2', z, st', hx, hy, sr2, v1, v2, hf, c⟩ => ?_)
      unfold oNotIn at hf
      rw [Option.map_eq_some_iff] at hf
      obtain ⟨k, e, hf⟩ := hf
      cases hf
      exact in_seq (neg := true) (Q := fun x H' => ∃ k, x = .bl k ∧ Q k H') sr2 v1 v2 e (fun q => t ⟨_, _, _, _, hx, hy, q⟩) (c.same sr2 VR.bl)
theorem mt_not (h : PT X a (TBl (pmOf X) W ta)) : PT X (.UnaryOp .Not a pos) (TBl (pmOf X) W (tNot ta)) := (pt_not h).imp fun σ H Q ⟨m, ρ, st, er, sr, af⟩ => by
  refine ⟨m, ρ, st, er, sr, (Af.bind af).imp ?_⟩
  rintro v H1 ⟨m1, st1, x, e1, sr1, vr1, hx, af1⟩
  have hv : x = v := vr1
  subst hv
  exact af1 _ H1 m1 (Ext.refl _ _) rfl sr1
theorem mw_and1 (h : PT X a (TBl (pmOf X) W ta)) : PW X (.BoolOp .And [a] pos) (TBl (pmOf X) W ta) := pw_and1 h
theorem mw_or1 (h : PT X a (TBl (pmOf X) W ta)) : PW X (.BoolOp .Or [a] pos) (TBl (pmOf X) W ta) := pw_or1 h
theorem mw_and (h : PT X a (TBl (pmOf X) W ta)) (h' : PW X (.BoolOp .And (b :: rest) pos) (TBl (pmOf X) W tb)) : PW X (.BoolOp .And (a :: b :: rest) pos) (TBl (pmOf X) W (EV.tAnd ta tb)) := (pw_and h h').imp fun σ H Q ⟨m, ρ, st, er, sr, af⟩ => by
  refine ⟨m, ρ, st, er, sr, (Af.bind af).imp ?_⟩
  rintro v H1 ⟨m1, st1, x, e1, sr1, vr1, hx, af1⟩
  have hv : x = v := vr1
  subst hv
  cases x with
  | true => exact ⟨m1, ρ, st1, er.mono e1, sr1, af1⟩
  | false => exact af1 _ H1 m1 (Ext.refl _ _) rfl sr1
theorem mw_or (h : PT X a (TBl (pmOf X) W ta)) (h' : PW X (.BoolOp .Or (b :: rest) pos) (TBl (pmOf X) W tb)) : PW X (.BoolOp .Or (a :: b :: rest) pos) (TBl (pmOf X) W (EV.tOr ta tb)) := (pw_or h h').imp fun σ H Q ⟨m, ρ, st, er, sr, af⟩ => by
  refine ⟨m, ρ, st, er, sr, (Af.bind af).imp ?_⟩
  rintro v H1 ⟨m1, st1, x, e1, sr1, vr1, hx, af1⟩
  have hv : x = v := vr1
  subst hv
  cases x with
  | false => exact ⟨m1, ρ, st1, er.mono e1, sr1, af1⟩
  | true => exact af1 _ H1 m1 (Ext.refl _ _) rfl sr1
/-- and, or of bools as values -/
theorem me_one {op : BoolOp} (h : PE X a (TV (pmOf X) W ea)) : PE X (.BoolOp op [a] pos) (TV (pmOf X) W ea) := pe_one h
theorem me_and (h : PE X a (TV (pmOf X) W ea)) (h' : PE X (.BoolOp .And (b :: rest) pos) (TV (pmOf X) W eb)) : PE X (.BoolOp .And (a :: b :: rest) pos) (TV (pmOf X) W (eAnd ea eb)) := (pe_and h h').imp fun σ H Q ⟨m, ρ, st, er, sr, af⟩ => by
  refine ⟨m, ρ, st, er, sr, (Af.bind af).imp ?_⟩
  rintro v H1 ⟨m1, st1, x, e1, sr1, vr1, hx, af1⟩
  split at af1
  · cases vr1.bl_eq
    exact ⟨true, rfl, m1, ρ, st1, er.mono e1, sr1, af1⟩
  · cases vr1.bl_eq
    exact ⟨false, rfl, af1 _ H1 m1 (Ext.refl _ _) VR.bl sr1⟩
  · exact af1.elim
theorem me_or (h : PE X a (TV (pmOf X) W ea)) (h' : PE X (.BoolOp .Or (b :: rest) pos) (TV (pmOf X) W eb)) : PE X (.BoolOp .Or (a :: b :: rest) pos) (TV (pmOf X) W (eOr ea eb)) := (pe_or h h').imp fun σ H Q ⟨m, ρ, st, er, sr, af⟩ => by
  refine ⟨m, ρ, st, er, sr, (Af.bind af).imp ?_⟩
  rintro v H1 ⟨m1, st1, x, e1, sr1, vr1, hx, af1⟩
  split at af1
  · cases vr1.bl_eq
    exact ⟨false, rfl, m1, ρ, st1, er.mono e1, sr1, af1⟩
  · cases vr1.bl_eq
    exact ⟨true, rfl, af1 _ H1 m1 (Ext.refl _ _) VR.bl sr1⟩
  · exact af1.elim
theorem me_not (h : PE X a (TV (pmOf X) W ea)) : PE X (.UnaryOp .Not a pos) (TV (pmOf X) W (eNot ea)) := (pe_not h).imp fun σ H Q ⟨m, ρ, st, er, sr, af⟩ => by
  refine ⟨m, ρ, st, er, sr, (Af.bind af).imp ?_⟩
  rintro v H1 ⟨m1, st1, x, e1, sr1, vr1, hx, af1⟩
  split at af1
  · cases vr1.bl_eq
    exact ⟨_, rfl, af1 _ H1 m1 (Ext.refl _ _) VR.bl sr1⟩
  · exact af1.elim
theorem me_if (ht : PT X c (TBl (pmOf X) W ta)) (ha : PE X a (TV (pmOf X) W ea)) (hb : PE X b (TV (pmOf X) W eb)) : PE X (.IfExp c a b pos) (TV (pmOf X) W (eIf ta ea eb)) := (pe_ifExp ht ha hb).imp fun σ H Q ⟨m, ρ, st, er, sr, af⟩ => by
  refine ⟨m, ρ, st, er, sr, (Af.bind af).imp ?_⟩
  rintro v H1 ⟨m1, st1, x, e1, sr1, vr1, hx, af1⟩
  have hv : x = v := vr1
  subst hv
  cases x with
  | true => exact ⟨m1, ρ, st1, er.mono e1, sr1, af1⟩
  | false => exact ⟨m1, ρ, st1, er.mono e1, sr1, af1⟩
end
end EV
namespace EV
open PySem PySem.Spec L2

/-! ### what is wanted of a statement -/
def AfS (p : Pm) (W : WX) (D : Ends) (H : Hp) (m : List Addr) : RS → Prop
  | .nx ρ st => ∀ σ' H' m', Ext H H' m m' → ER p H' m' σ' ρ → SR p H' m' st → D.nx σ' H'
  | .rt x st => ∀ v H' m', Ext H H' m m' → VR p.K H' m' x v → SR p H' m' st → D.rt v H'
  | .bk ρ st => ∀ σ' H' m', Ext H H' m m' → ER p H' m' σ' ρ → SR p H' m' st → D.bk σ' H'
  | .ct ρ st => ∀ σ' H' m', Ext H H' m m' → ER p H' m' σ' ρ → SR p H' m' st → D.ct σ' H'
  | .ex c fs ρ st => ∀ cls d σ' H' m', Ext H H' m m' → ER p H' m' σ' ρ → SR p H' m' st → XR p H' m' c fs cls d → W cls d σ' H'
  | .bad => False
def TSm (p : Pm) (W : WX) (e : Sm) : TS := fun D σ H => ∃ m ρ st, ER p H m σ ρ ∧ SR p H m st ∧ AfS p W D H m (e ρ st)
theorem AfS.move {p : Pm} {W : WX} {D : Ends} {H H1 : Hp} {m m1 : List Addr} {r : RS} (h : AfS p W D H m r) (e : Ext H H1 m m1) : AfS p W D H1 m1 r := by
  cases r with
  | nx ρ st => exact fun σ' H' m' e' er sr => h σ' H' m' (e.trans e') er sr
  | rt x st => exact fun v H' m' e' vr sr => h v H' m' (e.trans e') vr sr
  | bk ρ st => exact fun σ' H' m' e' er sr => h σ' H' m' (e.trans e') er sr
  | ct ρ st => exact fun σ' H' m' e' er sr => h σ' H' m' (e.trans e') er sr
  | ex c fs ρ st => exact fun cls d σ' H' m' e' er sr xr => h cls d σ' H' m' (e.trans e') er sr xr
  | bad => exact h
theorem AfS.thenS {α β : Type} {R : Rl α β} {p : Pm} {W : WX} {σ : L2.St} {D : Ends} {H : Hp} {m : List Addr} {ρ : Slots} {r : Res α} {f : α → Store → RS} (er : ER p H m σ ρ) (h : AfS p W D H m (r.thenS ρ f)) :
    Af R p W σ H m (fun v H1 => ∃ m1 st a, Ext H H1 m m1 ∧ SR p H1 m1 st ∧ R H1 m1 a v ∧ r = .ok a st ∧ AfS p W D H1 m1 (f a st)) r := by
  cases r with
  | ok x st => exact fun v H' m' e rv sr => ⟨m', st, x, e, sr, rv, rfl, h.move e⟩
  | ex c fs st => exact fun cls d H' m' e sr xr => h cls d σ H' m' e (er.mono e) sr xr
  | bad => exact h
/-- another end -/
theorem AfS.to {p : Pm} {W : WX} {D D' : Ends} {H : Hp} {m : List Addr} {r : RS} (h : AfS p W D H m r) (h1 : ∀ σ H, D.nx σ H → D'.nx σ H) (h2 : ∀ v H, D.rt v H → D'.rt v H) (h3 : ∀ σ H, D.bk σ H → D'.bk σ H) (h4 : ∀ σ H, D.ct σ H → D'.ct σ H) : AfS p W D' H m r := by
  cases r with
  | nx ρ st => exact fun σ' H' m' e' er sr => h1 _ _ (h σ' H' m' e' er sr)
  | rt x st => exact fun v H' m' e' vr sr => h2 _ _ (h v H' m' e' vr sr)
  | bk ρ st => exact fun σ' H' m' e' er sr => h3 _ _ (h σ' H' m' e' er sr)
  | ct ρ st => exact fun σ' H' m' e' er sr => h4 _ _ (h σ' H' m' e' er sr)
  | ex c fs ρ st => exact h
  | bad => exact h
section
variable {p : Pm} {H : Hp} {m : List Addr} {σ : L2.St} {ρ : Slots}
theorem ER.set (E : ER p H m σ ρ) {i : Nat} {x : Val} {v : V} (h : VR p.K H m x v) : ER p H m (σ.set i (some v)) (ρ.set i (some x)) := by
  refine ⟨by simp [E.len], fun j y hy => ?_⟩
  by_cases hj : j = i
  · subst hj
    have hl : j < ρ.length := by have := (List.getElem?_eq_some_iff.mp hy).1; simpa using this
    rw [List.getElem?_set_self hl] at hy
    cases hy
    exact ⟨v, List.getElem?_set_self (by rw [← E.len]; exact hl), h⟩
  · rw [List.getElem?_set_ne (Ne.symm hj)] at hy ⊢
    exact E.slot j y hy
theorem ER.wipe1 (E : ER p H m σ ρ) (i : Nat) : ER p H m (σ.set i none) (ρ.set i none) := by
  refine ⟨by simp [E.len], fun j y hy => ?_⟩
  by_cases hj : j = i
  · subst hj
    have hl : j < ρ.length := by have := (List.getElem?_eq_some_iff.mp hy).1; simpa using this
    rw [List.getElem?_set_self hl] at hy
    cases hy
  · rw [List.getElem?_set_ne (Ne.symm hj)] at hy ⊢
    exact E.slot j y hy
theorem ER.wipe (E : ER p H m σ ρ) : ∀ vs : List Nat, ER p H m (wipe σ vs) (wipeS ρ vs)
  | [] => E
  | v :: vs => by unfold L2.wipe wipeS; exact (E.wipe vs).wipe1 v
end

/-! ### targets -/
def TGt (p : Pm) (g : Tg) : TG := fun v σ H Q => ∃ m x ρ ρ', VR p.K H m x v ∧ ER p H m σ ρ ∧ g x ρ = some ρ' ∧ ∀ σ', ER p H m σ' ρ' → Q σ' H
def TGts (p : Pm) (g : Tgs) : TGs := fun vs σ H Q => ∃ m xs ρ ρ', VRs p.K H m xs vs ∧ ER p H m σ ρ ∧ g xs ρ = some ρ' ∧ ∀ σ', ER p H m σ' ρ' → Q σ' H
theorem _root_.L2.PG.imp {X : Cx} {e : Expr} {t t' : TG} (h : PG X e t) (i : ∀ v σ H Q, t' v σ H Q → t v σ H Q) : PG X e t' := ⟨fun pins s σ H v u Q I r q => h.run pins s σ H v u Q I r (i v σ H Q q)⟩
theorem _root_.L2.PGs.imp {X : Cx} {e : List Expr} {t t' : TGs} (h : PGs X e t) (i : ∀ v σ H Q, t' v σ H Q → t v σ H Q) : PGs X e t' := ⟨fun pins s σ H v u Q I r q => h.run pins s σ H v u Q I r (i v σ H Q q)⟩
section
variable {X : Cx} {W : WX} {pos : Pos}
theorem mg_of {e : Expr} {i : Nat} (h : PG X e (gName i)) : PG X e (TGt (pmOf X) (gSlot i)) := h.imp fun v σ H Q ⟨m, x, ρ, ρ', vr, er, hg, q⟩ => by
  unfold gSlot at hg
  split at hg
  · cases hg
    exact q _ (er.set vr)
  · cases hg
theorem mg_name {i : Nat} {x : Str} (hN : X.N.Nodup) (hi : X.N[i]? = some x) (hx : Loc X.env.scope x) (hf : X.fn x = true ∨ X.env.scope.names.lookup x = some .local := by first | exact .inl rfl | exact .inr rfl | assumption) : PG X (.Name x pos) (TGt (pmOf X) (gSlot i)) := mg_of (pg_name hN hi hx hf)
theorem mgs_nil : PGs X [] (TGts (pmOf X) gsNil) := pgs_nil.imp fun vs σ H Q ⟨m, xs, ρ, ρ', vr, er, hg, q⟩ => by
  unfold gsNil at hg
  split at hg
  · cases hg
    exact ⟨vr.nil_inv, q _ er⟩
  · cases hg
theorem mgs_cons {e : Expr} {es : List Expr} {g : Tg} {gs : Tgs} (h1 : PG X e (TGt (pmOf X) g)) (h2 : PGs X es (TGts (pmOf X) gs)) (hs : (assignEach (e :: es) X.env).map (·.2) = assign e X.env :: (assignEach es X.env).map (·.2) := by rfl) :
    PGs X (e :: es) (TGts (pmOf X) (gsCons g gs)) := (pgs_cons h1 h2 hs).imp fun vs σ H Q ⟨m, xs, ρ, ρ', vr, er, hg, q⟩ => by
  unfold gsCons at hg
  split at hg
  · rename_i x r
    split at hg
    · rename_i ρ1 e1
      obtain ⟨v, vs', rfl, hv, hr⟩ := vr.cons_inv
      exact ⟨v, vs', rfl, m, x, ρ, ρ1, hv, er, e1, fun σ' er' => ⟨m, r, ρ1, ρ', hr, er', hg, q⟩⟩
    · cases hg
  · cases hg
/-- so many targets -/
def TgMany (n : Nat) (g : Tgs) : Prop := ∀ xs ρ ρ', g xs ρ = some ρ' → xs.length = n
theorem tgMany_nil : TgMany 0 gsNil := fun xs ρ ρ' h => by
  unfold gsNil at h
  split at h
  · rfl
  · cases h
theorem tgMany_cons {n : Nat} {g : Tg} {gs : Tgs} (h : TgMany n gs) : TgMany (n + 1) (gsCons g gs) := fun xs ρ ρ' e => by
  unfold gsCons at e
  split at e
  · split at e
    · rw [List.length_cons, h _ _ _ e]
    · cases e
  · cases e
theorem mg_tup {es : List Expr} {k n : Nat} {g : Tgs} (hc : X.calm = true) (h : PGs X es (TGts (pmOf X) g)) (hm : TgMany n g) (hn : (assignEach es X.env).length = n := by rfl) (hst : (assignEach es X.env).findIdx? (·.1) = none := by rfl) :
    PG X (.Tuple es k pos) (TGt (pmOf X) (gTupT g)) := (pg_tup hc h hn hst).imp fun v σ H Q ⟨m, x, ρ, ρ', vr, er, hg, q⟩ => by
  unfold gTupT at hg
  split at hg
  · obtain ⟨a, vs, rfl, h1, h2⟩ := vr.tup_inv
    exact ⟨a, vs, rfl, h1, by rw [h2.length]; exact hm _ _ _ hg, m, _, ρ, ρ', h2, er, hg, q⟩
  · cases hg

/-! ### statements -/
theorem mss_nil : PSs X [] (TSm (pmOf X) W sNop) := pss_nil.imp fun D σ H ⟨m, ρ, st, er, sr, af⟩ => af σ H m (Ext.refl H m) er sr
theorem mss_cons {s : Stmt} {r : List Stmt} {a b : Sm} (h1 : PS X s (TSm (pmOf X) W a)) (h2 : PSs X r (TSm (pmOf X) W b)) : PSs X (s :: r) (TSm (pmOf X) W (sSeq a b)) := (pss_cons h1 h2).imp fun D σ H ⟨m, ρ, st, er, sr, af⟩ => by
  refine ⟨m, ρ, st, er, sr, ?_⟩
  unfold sSeq at af
  cases e : a ρ st with
  | nx ρ1 st1 =>
    rw [e] at af
    exact fun σ' H' m' e' er' sr' => ⟨m', ρ1, st1, er', sr', af.move e'⟩
  | rt x st1 => rw [e] at af; exact af
  | bk ρ1 st1 => rw [e] at af; exact af
  | ct ρ1 st1 => rw [e] at af; exact af
  | ex c fs ρ1 st1 => rw [e] at af; exact af
  | bad => rw [e] at af; exact af
theorem mss_one {s : Stmt} {a : Sm} (h : PS X s (TSm (pmOf X) W a)) : PSs X [s] (TSm (pmOf X) W a) := pss_one h
theorem ms_pass : PS X (.Pass pos) (TSm (pmOf X) W sNop) := ps_pass.imp fun D σ H ⟨m, ρ, st, er, sr, af⟩ => af σ H m (Ext.refl H m) er sr
theorem ms_break : PS X (.Break pos) (TSm (pmOf X) W sBreak) := ps_break.imp fun D σ H ⟨m, ρ, st, er, sr, af⟩ => af σ H m (Ext.refl H m) er sr
theorem ms_continue : PS X (.Continue pos) (TSm (pmOf X) W sCont) := ps_continue.imp fun D σ H ⟨m, ρ, st, er, sr, af⟩ => af σ H m (Ext.refl H m) er sr
theorem ms_drop {e : Expr} {a : Ev} (h : PE X e (TV (pmOf X) W a)) (hs : swapsWith e none pos.line X.env = pure false := by rfl) : PS X (.Expr e pos) (TSm (pmOf X) W (sDrop a)) := (ps_expr h hs).imp fun D σ H ⟨m, ρ, st, er, sr, af⟩ => by
  refine ⟨m, ρ, st, er, sr, (AfS.thenS er af).imp ?_⟩
  rintro v H1 ⟨m1, st1, x, e1, sr1, vr1, hx, af1⟩
  exact af1 σ H1 m1 (Ext.refl _ _) (er.mono e1) sr1
theorem ms_ret {e : Expr} {a : Ev} (h : PE X e (TV (pmOf X) W a)) : PS X (.Return (some e) pos) (TSm (pmOf X) W (sRet a)) := (ps_ret h).imp fun D σ H ⟨m, ρ, st, er, sr, af⟩ => by
  refine ⟨m, ρ, st, er, sr, (AfS.thenS er af).imp ?_⟩
  rintro v H1 ⟨m1, st1, x, e1, sr1, vr1, hx, af1⟩
  exact af1 v H1 m1 (Ext.refl _ _) vr1 sr1
theorem ms_retN : PS X (.Return none pos) (TSm (pmOf X) W sRetN) := ps_retN.imp fun D σ H ⟨m, ρ, st, er, sr, af⟩ => af .non H m (Ext.refl H m) VR.non sr
theorem ms_if {c : Expr} {x y : List Stmt} {t : Et} {a b : Sm} (hc : PT X c (TBl (pmOf X) W t)) (ha : PSs X x (TSm (pmOf X) W a)) (hb : PSs X y (TSm (pmOf X) W b)) : PS X (.If c x y pos) (TSm (pmOf X) W (sIf t a b)) := (ps_if hc ha hb).imp fun D σ H ⟨m, ρ, st, er, sr, af⟩ => by
  refine ⟨m, ρ, st, er, sr, (AfS.thenS er af).imp ?_⟩
  rintro v H1 ⟨m1, st1, x, e1, sr1, vr1, hx, af1⟩
  have hv : x = v := vr1
  subst hv
  cases x with
  | true => exact ⟨m1, ρ, st1, er.mono e1, sr1, af1⟩
  | false => exact ⟨m1, ρ, st1, er.mono e1, sr1, af1⟩
theorem set_imp {a : Ev} {g : Tg} {D : Ends} {σ : L2.St} {H : Hp} {p : Pm} (h : TSm p W (sSet a g) D σ H) : tAsg (TV p W a) (TGt p g) D σ H := by
  obtain ⟨m, ρ, st, er, sr, af⟩ := h
  refine ⟨m, ρ, st, er, sr, (AfS.thenS er af).imp ?_⟩
  rintro v H1 ⟨m1, st1, x, e1, sr1, vr1, hx, af1⟩
  split at af1
  · rename_i ρ1 hg
    exact ⟨m1, x, ρ, ρ1, vr1, er.mono e1, hg, fun σ' er' => af1 σ' H1 m1 (Ext.refl _ _) er' sr1⟩
  · exact af1.elim
theorem set_imp1 {a : Ev} {i : Nat} {D : Ends} {σ : L2.St} {H : Hp} {p : Pm} (h : TSm p W (sSet a (gSlot i)) D σ H) : tAsg (TV p W a) (gName i) D σ H := by
  obtain ⟨m, ρ, st, er, sr, af⟩ := h
  refine ⟨m, ρ, st, er, sr, (AfS.thenS er af).imp ?_⟩
  rintro v H1 ⟨m1, st1, x, e1, sr1, vr1, hx, af1⟩
  split at af1
  · rename_i ρ1 hg
    unfold gSlot at hg
    split at hg
    · cases hg
      exact af1 _ H1 m1 (Ext.refl _ _) ((er.mono e1).set vr1) sr1
    · cases hg
  · exact af1.elim
/-- a, b = e (a tuple) and all other targets -/
theorem ms_asg {tg e : Expr} {a : Ev} {g : Tg} (he : PE X e (TV (pmOf X) W a)) (hg : PG X tg (TGt (pmOf X) g)) (hs : swapsWithSole [tg] e pos.line X.env = pure false := by rfl) (hw : swappedStores [tg] e X.env = pure none := by rfl)
    (h1 : (assignEach [tg] X.env).map (·.2) = [assign tg X.env] := by rfl) : PS X (.Assign [tg] e pos) (TSm (pmOf X) W (sSet a g)) := (ps_asg he hg hs hw h1).imp fun D σ H h => set_imp h
theorem ms_set {i : Nat} {x : Str} {e : Expr} {a : Ev} {pos' : Pos} (hN : X.N.Nodup) (hi : X.N[i]? = some x) (hx : Loc X.env.scope x) (he : PE X e (TV (pmOf X) W a)) (hs : swapsWith e (some (.Name x pos')) pos.line X.env = pure false := by rfl)
    (hf : X.fn x = true ∨ X.env.scope.names.lookup x = some .local := by first | exact .inl rfl | exact .inr rfl | assumption) : PS X (.Assign [.Name x pos'] e pos) (TSm (pmOf X) W (sSet a (gSlot i))) := (ps_set hN hi hx he hs hf).imp fun D σ H h => set_imp1 h
theorem ms_par {i j : Nat} {x y : Str} {a b : Expr} {l : El} {px py pt : Pos} {kt k2 : Nat} {pt2 : Pos} (hc : X.calm = true) (hN : X.N.Nodup) (hi : X.N[i]? = some x) (hj : X.N[j]? = some y) (hij : i ≠ j)
    (hx : X.env.scope.names.lookup x = some .local) (hy : X.env.scope.names.lookup y = some .local) (ha : PA X [a, b] (TL (pmOf X) W l))
    (hw : swappedStores [.Tuple [.Name x px, .Name y py] kt pt] (.Tuple [a, b] k2 pt2) X.env = pure (some [x, y]))
    (hs : swapsWithSole [.Tuple [.Name x px, .Name y py] kt pt] (.Tuple [a, b] k2 pt2) pos.line X.env = pure false := by rfl) :
    PS X (.Assign [.Tuple [.Name x px, .Name y py] kt pt] (.Tuple [a, b] k2 pt2) pos) (TSm (pmOf X) W (sPar i j l)) := (ps_par hc hN hi hj hij hx hy ha hw hs).imp fun D σ H ⟨m, ρ, st, er, sr, af⟩ => by
  refine ⟨m, ρ, st, er, sr, (AfS.thenS er af).imp ?_⟩
  rintro vs H1 ⟨m1, st1, xs, e1, sr1, vr1, hx, af1⟩
  split at af1
  · obtain ⟨v, w, rfl, h1, h2⟩ := vr1.two
    exact ⟨v, w, rfl, af1 _ H1 m1 (Ext.refl _ _) (((er.mono e1).set h1).set h2) sr1⟩
  · exact af1.elim
end

/-! ### o[i] = e -/
section
variable {X : Cx} {W : WX} {pos pos' : Pos} {o i value : Expr} {eo ei ev : Ev}
theorem put_at {p : Pm} {σ : L2.St} {D : Ends} {H : Hp} {m : List Addr} {ρ : Slots} {st : Store} (er : ER p H m σ ρ) (sr : SR p H m st) (af : AfS p W D H m (sPut eo ei ev ρ st)) :
    TV p W ev σ H fun v H1 => TV p W eo σ H1 fun x H2 => TV p W ei σ H2 fun y H3 => ∃ m3 v' st1 x' st2 y' st3 st4, ev ρ st = .ok v' st1 ∧ eo ρ st1 = .ok x' st2 ∧ ei ρ st2 = .ok y' st3 ∧ ER p H3 m3 σ ρ ∧ SR p H3 m3 st3 ∧
      VR p.K H3 m3 v' v ∧ VR p.K H3 m3 x' x ∧ VR p.K H3 m3 y' y ∧ putIx x' y' v' st3 = some st4 ∧ AfS p W D H3 m3 (.nx ρ st4) := by
  refine ⟨m, ρ, st, er, sr, (AfS.thenS er af).imp ?_⟩
  rintro v H1 ⟨m1, st1, v', e1, sr1, vr1, hv, af1⟩
  refine ⟨m1, ρ, st1, er.mono e1, sr1, (AfS.thenS (er.mono e1) af1).imp ?_⟩
  rintro x H2 ⟨m2, st2, x', e2, sr2, vr2, hx, af2⟩
  refine ⟨m2, ρ, st2, (er.mono e1).mono e2, sr2, (AfS.thenS ((er.mono e1).mono e2) af2).imp ?_⟩
  rintro y H3 ⟨m3, st3, y', e3, sr3, vr3, hy, af3⟩
  cases q : putIx x' y' v' st3 with
  | none => rw [q] at af3; exact af3.elim
  | some st4 =>
    rw [q] at af3
    exact ⟨m3, v', st1, x', st2, y', st3, st4, hv, hx, hy, ((er.mono e1).mono e2).mono e3, sr3, (vr1.mono e2).mono e3, vr2.mono e3, vr3, q, af3⟩
theorem TV.imp3 {p : Pm} {σ : L2.St} {H : Hp} {a b c : Ev} {Q Q' : V → V → V → Hp → Prop} (h : TV p W a σ H fun v H1 => TV p W b σ H1 fun x H2 => TV p W c σ H2 fun y H3 => Q v x y H3) (i : ∀ v x y H3, Q v x y H3 → Q' v x y H3) :
    TV p W a σ H fun v H1 => TV p W b σ H1 fun x H2 => TV p W c σ H2 fun y H3 => Q' v x y H3 := h.imp fun v H1 h => h.imp fun x H2 h => h.imp fun y H3 h => i v x y H3 h
theorem ms_put (hu : X.A.units + 1 < cLine) (ho : PE X o (TV (pmOf X) W eo)) (hi : PE X i (TV (pmOf X) W ei)) (hv : PE X value (TV (pmOf X) W ev)) (hs : swapsWith value (some (.Subscript o i pos')) pos.line X.env = pure false)
    (hs' : swapsWithSole [.Subscript o i pos'] value pos.line X.env = pure false := by rfl) (hw : swappedStores [.Subscript o i pos'] value X.env = pure none := by rfl)
    (h1 : (assignEach [.Subscript o i pos'] X.env).map (·.2) = [assign (.Subscript o i pos') X.env] := by rfl)
    (ha : ∀ v, assign (.Subscript o i pos') X.env v = (do
      let ov ← holding [v] (eval o X.env)
      let iv ← holding [v, ov] (eval i X.env)
      standAt pos'
      holding [v, ov, iv] (setItem ov iv v)
      release [v, ov, iv] []) := by intro _; rfl) : PS X (.Assign [.Subscript o i pos'] value pos) (TSm (pmOf X) W (sPut eo ei ev)) :=
  ((ps_asg hv (pg_sub ho hi set_list ha) hs' hw h1).or (ps_dput hu ho hi hv hs)).imp fun D σ H ⟨m, ρ, st, er, sr, af⟩ => by
    by_cases t : ∃ v st1 x st2 y st3, ev ρ st = .ok v st1 ∧ eo ρ st1 = .ok x st2 ∧ ei ρ st2 = .ok y st3 ∧ isTab st3 x
    · obtain ⟨v, st1, x, st2, y, st3, h1, h2, h3, t⟩ := t
      refine .inr ((put_at er sr af).imp3 ?_)
      rintro v0 x0 y0 H3 ⟨m3, v', st1', x', st2', y', st3', st4, q1, q2, q3, er3, sr3, vv, vx, vy, hp, af3⟩
      rw [h1] at q1; cases q1
      rw [h2] at q2; cases q2
      rw [h3] at q3; cases q3
      obtain ⟨r, rfl, ⟨kvs, e⟩ | ⟨kvs, e⟩⟩ := t
      · unfold putIx at hp
        simp only [e] at hp
        split at hp
        · rename_i k hk
          split at hp
          · rename_i hz
            cases hp
            obtain ⟨a, rfl, ha, ws, h4, h5⟩ := sr3.deref e vx
            have ek := keyOf_rel hk vy
            subst ek
            have ex := Ext.write (o := .dK (putK ws k v0)) ha sr3 fun q x z => by rw [h4] at z; cases z
            exact ⟨a, _, rfl, DPut.k h4 (by rw [h5.length]; exact hz), af3 σ _ m3 ex (er3.mono ex) (sr3.write ha ⟨_, upd_same, (h5.put vv).mono ex⟩)⟩
          · cases hp
        · cases hp
      · unfold putIx at hp
        simp only [e] at hp
        split at hp
        · split at hp
          · rename_i xs k hk
            split at hp
            · rename_i hz
              cases hp
              obtain ⟨a, rfl, ha, ws, h4, h5⟩ := sr3.deref e vx
              obtain ⟨b, us, rfl, hb, hu'⟩ := vy.tup_at
              have ek := keysOf_rel hk hu'
              subst ek
              have ex := Ext.write (o := .dT (putK ws k v0)) ha sr3 fun q x z => by rw [h4] at z; cases z
              exact ⟨a, _, rfl, DPut.t h4 hb (by rw [h5.length]; exact hz), af3 σ _ m3 ex (er3.mono ex) (sr3.write ha ⟨_, upd_same, (h5.put vv).mono ex⟩)⟩
            · cases hp
          · cases hp
        · cases hp
    · refine .inl ((put_at er sr af).imp3 ?_)
      rintro v0 x0 y0 H3 ⟨m3, v', st1', x', st2', y', st3', st4, q1, q2, q3, er3, sr3, vv, vx, vy, hp, af3⟩
      have nt : ¬ isTab st3' x' := fun q => t ⟨_, _, _, _, _, _, q1, q2, q3, q⟩
      unfold putIx at hp
      split at hp
      · rename_i r
        split at hp
        · rename_i xs e
          split at hp
          · split at hp
            · rename_i j hj
              cases hp
              obtain ⟨a, rfl, ha, ws, h4, h5⟩ := sr3.deref e vx
              cases vy.int_eq
              obtain ⟨ex, S'⟩ := write_lst sr3 ha h4 (h5.set vv j)
              exact ⟨a, ws, _, j, rfl, rfl, h4, by rw [h5.length]; exact hj, af3 σ _ m3 ex (er3.mono ex) S'⟩
            · cases hp
          · cases hp
        · rename_i kvs e; exact (nt ⟨r, rfl, .inl ⟨_, e⟩⟩).elim
        · rename_i kvs e; exact (nt ⟨r, rfl, .inr ⟨_, e⟩⟩).elim
        · cases hp
      · cases hp
end

/-! ### written dicts -/
section
variable {X : Cx} {W : WX} {pos : Pos}
abbrev trsOf (p : Pm) (W : WX) (l : List (Key × Ev)) : List (TE × TE) := l.map fun q => (tC (kV q.1), TV p W q.2)
theorem tPairs_imp {p : Pm} {σ : L2.St} : ∀ {l : List (Key × Ev)} {H : Hp} {Q Q' : List (V × V) → Hp → Prop}, (∀ ps H, Q ps H → Q' ps H) → tPairs (trsOf p W l) σ H Q → tPairs (trsOf p W l) σ H Q'
  | [], H, Q, Q', i, h => i _ _ h
  | (k, e) :: r, H, Q, Q', i, h => TV.imp h fun v H1 h => tPairs_imp (fun ps H => i _ H) h
theorem pairs_at {p : Pm} {σ : L2.St} {Q : List (Key × V) → Hp → Prop} : ∀ {l : List (Key × Ev)} {H : Hp} {m : List Addr} {ρ : Slots} {st : Store}, ER p H m σ ρ → SR p H m st →
    Af (fun H m (x : List (Key × Val)) v => KVR p.K H m x v) p W σ H m Q (eDispL l ρ st) → tPairs (trsOf p W l) σ H fun ps H2 => ∃ ws, ps = ws.map (fun kv => (kV kv.1, kv.2)) ∧ ws.length = l.length ∧ Q ws H2
  | [], H, m, ρ, st, er, sr, af => ⟨[], rfl, rfl, af [] H m (Ext.refl H m) (by unfold KVR; rfl) sr⟩
  | (k, e) :: r, H, m, ρ, st, er, sr, af => by
    refine ⟨m, ρ, st, er, sr, (Af.bind af).imp ?_⟩
    rintro v H1 ⟨m1, st1, x, e1, sr1, vr1, hx, af1⟩
    have ih := pairs_at (er.mono e1) sr1 ((Af.bind (R := fun H m (x : List (Key × Val)) v => KVR p.K H m x v) af1))
    refine tPairs_imp ?_ ih
    rintro ps H2 ⟨ws, rfl, hl, m2, st2, kvs, e2, sr2, kr, hy, af2⟩
    refine ⟨(k, v) :: ws, rfl, by simp [hl], af2 _ H2 m2 (Ext.refl _ _) ?_ sr2⟩
    unfold KVR
    exact ⟨v, ws, rfl, vr1.mono e2, kr⟩
theorem fold_put {p : Pm} {H : Hp} {m : List Addr} : ∀ {kvs : List (Key × Val)} {ws : List (Key × V)} {acc : List (Key × Val)} {acw : List (Key × V)}, KVR p.K H m kvs ws → KVR p.K H m acc acw →
    KVR p.K H m (kvs.foldl (fun acc kv => dput acc kv.1 kv.2) acc) (mergeK acw ws)
  | [], ws, acc, acw, h, h' => by unfold KVR at h; subst h; exact h'
  | (k, x) :: r, ws, acc, acw, h, h' => by
    unfold KVR at h
    obtain ⟨v, l, rfl, h1, h2⟩ := h
    have q := fold_put h2 (KVR.put (k := k) h1 h')
    exact q
theorem me_disp {keys : List (Option Expr)} {values : List Expr} {l : List (Key × Ev)} (h : PPs X pos keys values (trsOf (pmOf X) W l)) (hall : keys.all (·.isSome) = true) (hl : keys.length = values.length) (h0 : keys ≠ []) (hz : l.length ≤ 15) (hz' : keys.length ≤ 15) :
    PE X (.Dict keys values pos) (TV (pmOf X) W (eDisp l)) := (pe_disp h hall hl h0 hz').imp fun σ H Q ⟨m, ρ, st, er, sr, af⟩ => fun a n => by
  have ex : Ext H (upd H a (.dK [])) m m := Ext.fresh n _
  have sr0 : SR (pmOf X) (upd H a (.dK [])) m st := sr.fresh n _
  have na : a ∉ m := fun q => by
    obtain ⟨o, ho, _⟩ := sr.has q
    rw [n] at ho; cases ho
  refine tPairs_imp ?_ (pairs_at (er.mono ex) sr0 ((Af.bind (R := fun H m (x : List (Key × Val)) v => KVR X.K H m x v) (af.move ex))))
  rintro ps H2 ⟨ws, rfl, hl, m2, st2, kvs, e2, sr2, kr, hy, af2⟩
  have ha2 : H2 a = some (.dK []) := e2.oth a _ upd_same na
  have na2 : a ∉ m2 := fun q => by
    have := e2.new a q na
    rw [upd_same] at this; cases this
  refine ⟨ha2, ws, rfl, by rw [hl]; exact hz, ?_⟩
  have af' := af
  unfold eDisp at af'
  rw [hy, Res.bind_ok] at af'
  have pr : m2 <+: m2 ++ [a] := List.prefix_append _ _
  have nt : ∀ xs, H2 a ≠ some (.tup xs) := fun xs q => by rw [ha2] at q; cases q
  have tp : ∀ b xs, H2 b = some (.tup xs) → upd H2 a (.dK (mergeK [] ws)) b = some (.tup xs) := fun b xs q => by
    rw [upd_ne (fun e => nt xs (by rw [← e]; exact q))]
    exact q
  have sr3 : SR (pmOf X) (upd H2 a (.dK (mergeK [] ws))) (m2 ++ [a]) (st2 ++ [.dK (kvs.foldl (fun acc kv => dput acc kv.1 kv.2) [])]) :=
    sr2.push0 na2 nt ⟨_, upd_same, KVR.mono0 pr tp (fold_put kr (by unfold KVR; rfl))⟩
  refine af' _ _ _ ⟨e2.pre.trans pr, fun b h1 h2 => ?_, fun b u h1 h2 => ?_, fun b xs h => ?_, fun b q x h => ?_⟩ ?_ sr3
  · rcases List.mem_append.mp h1 with q | q
    · have := e2.new b q h2
      by_cases hb : b = a
      · rw [hb]; exact n
      · rwa [upd_ne hb] at this
    · rw [List.mem_singleton.mp q]; exact n
  · have hb : b ≠ a := ne_of_none h1 n
    rw [upd_ne hb]
    exact e2.oth b u (by rw [upd_ne hb]; exact h1) h2
  · exact tp b xs (e2.tup b xs (ex.tup b xs h))
  · have hb : b ≠ a := ne_of_none h n
    rw [upd_ne hb]
    exact e2.frz b q x (ex.frz b q x h)
  · unfold VR
    exact ⟨a, push_get m2 a st2 sr2.len, rfl⟩
theorem mpp_nil : PPs X pos [] [] (trsOf (pmOf X) W []) := pps_nil
theorem mpp_str {x : String} {j : Nat} {p1 : Pos} {e : Expr} {ks : List (Option Expr)} {vs : List Expr} {a : Ev} {l : List (Key × Ev)} (h : PE X e (TV (pmOf X) W a)) (r : PPs X pos ks vs (trsOf (pmOf X) W l)) :
    PPs X pos (some (.Constant (.str x) j p1) :: ks) (e :: vs) (trsOf (pmOf X) W ((Sum.inr (x : Str), a) :: l)) := pps_cons pe_str h r
end
end EV
namespace EV
open PySem PySem.Spec L2

/-! ### enumerate(a tuple) -/
set_option maxHeartbeats 1000000 in
theorem meets_enum_any {v : Value} {o : Obj} {H : Heap → Prop} (B : Begins v o H) :
    Meets (Builtin.«enumerate.__new__» ⟨[.type "enumerate", v], []⟩) (fun _ R s => H s.heap ∧
      R (.ok (.ret (.ref (s.heap.push o).objs.size))) { s with heap := (s.heap.push o).push { cls := .type "enumerate", data := .fields #[.none, .bool false, .ref s.heap.objs.size, rawInt 0, .none, .none] } }) :=
  .of_wp fun prog w A R s h => by
    obtain ⟨hp, g, d, tk, os⟩ := s
    obtain ⟨h1, h⟩ := h
    have hsub := sub_enumerate
    have begin1 : ∀ {A' : Around} {E : Value → Shared → Prop} {Q : Value → Shared → Prop}, Q (.ref hp.objs.size) ⟨hp.push o, g, d, tk, os⟩ → wpAny (model prog w) A' (pyIter v) Q E ⟨hp, g, d, tk, os⟩ :=
      fun q => B.iter prog w _ _ _ _ h1 q
    wp_walk using begin1
    refine wpAny_stack_any fun st => wpAny_pure ?_
    split
    · rename_i c _ _ _ _ _
      cases (c == Value.type "enumerate") <;> (wp_walk using begin1; exact ⟨_, rfl, h⟩)
    · wp_walk using begin1
      exact ⟨_, rfl, h⟩
theorem call_enum_any {prog : Program} {w : World} {A : Around} {E : Value → Shared → Prop} {s : Shared} {v : Value} {o : Obj} {H : Heap → Prop} {Q : Value → Shared → Prop} (B : Begins v o H) (h1 : H s.heap)
    (h : ∀ h', IsEnum h' (s.heap.objs.size + 1) s.heap.objs.size 0 .none → h'.get? s.heap.objs.size = some o → h'.objs.size = s.heap.objs.size + 2 →
      (∀ b o, s.heap.get? b = some o → h'.get? b = some o) → Q (.ref (s.heap.objs.size + 1)) { s with heap := h' }) : wpAny (model prog w) A (call (.type "enumerate") [v]) Q E s := by
  refine callType_new F.called_enumerate (by decide) (F.typeCall_enumerate_1 _) (F.newCall_enumerate_1 _) (fun obj => F.args_object_init_2 obj _) F.entry_enumerate_new
    (meets_enum_any B) ⟨h1, ?_⟩
  have z : (s.heap.push o).objs.size = s.heap.objs.size + 1 := Heap.size_push ..
  show _ ∧ _
  rw [z]
  have e : IsEnum ((s.heap.push o).push { cls := .type "enumerate", data := .fields #[.none, .bool false, .ref s.heap.objs.size, rawInt 0, .none, .none] }) (s.heap.objs.size + 1) s.heap.objs.size 0 .none := by
    have q := Heap.get?_push_size (s.heap.push o) (o := { cls := .type "enumerate", data := .fields #[.none, .bool false, .ref s.heap.objs.size, rawInt 0, .none, .none] }) rfl
    rwa [z] at q
  exact ⟨⟨_, e, rfl⟩, h _ e (Heap.get?_push_of_some _ (Heap.get?_push_size _ B.free)) (by rw [Heap.size_push, z]) fun b o x => Heap.get?_push_of_some _ (Heap.get?_push_of_some _ x)⟩
/-- the tuple at a, each item in a new pair -/
def IteT (K : PySem.W.Frag) (a : Addr) : It :=
  ⟨fun i H => ∃ (xs : List V) (x : V), SqT K H a xs ∧ xs[i]? = some x, fun i H v H' => ∃ T x, v = .ref T ∧ H T = none ∧ H' = upd H T (.tup [.int (i : Nat), x]) ∧ ∀ xs, SqT K H a xs → xs[i]? = some x,
   fun i H => ∃ xs : List V, SqT K H a xs ∧ xs.length = i⟩
theorem turn_enumT {P : Program} {w : World} {K : PySem.W.Frag} {elts : List Expr} {kk : Nat} {tpos : Pos} (a e it : Addr) :
    Turn P w K (.Tuple elts kk tpos) (IteT K a) [e, it] e (fun i h => (∃ old, IsEnum h e it ((i : Nat) : Int) old) ∧ h.IsTupleIter it a i ∧ e ≠ it ∧ a ≠ it ∧ e ≠ a) where
  mem := by simp
  obj := fun i h st b hb => by
    obtain ⟨⟨old, he⟩, ⟨o, ho, hc, hd⟩, _⟩ := st
    have e' : b = e ∨ b = it := by simpa using hb
    rcases e' with rfl | rfl
    · exact ⟨_, he, fun v q => nomatch q⟩
    · exact ⟨o, ho, fun v q => by rw [hd] at q; cases q⟩
  keep := fun i h h' st k => by
    obtain ⟨⟨old, he⟩, hi, hne⟩ := st
    exact ⟨⟨old, k e (by simp) _ he⟩, hi.at fun o q => k it (by simp) o q, hne⟩
  item := by
    intro X hP hw hK hc i pins s σ H E I hf st hg
    subst hP hw hK
    obtain ⟨⟨old, he⟩, hit, hne, ha1, ha2⟩ := st
    obtain ⟨xs, x, hq, hx⟩ := hg
    obtain ⟨its, rv, p, hz⟩ := I.tuple hq
    obtain ⟨u, hu, ru⟩ := rv.get hx
    have le1 : e < s.heap.objs.size := Heap.lt_size he
    have le2 : it < s.heap.objs.size := by obtain ⟨_, q, _⟩ := hit; exact Heap.lt_size q
    have hi : i < its.toArray.size := by
      have := (List.getElem?_eq_some_iff.mp hu).1
      simpa using this
    have hh : X.A.in1.handled = none := I.ok.hd hc
    refine wpAny_pyNext_enum_itemD (Draws.tuple hh it a ha1 its.toArray) he ⟨hit, p⟩ hi hne (by simp [hne, ha2]) fun x' h' tk hP ho hs' hT hsz hk => ?_
    have ex : x' = u := by
      have h1 : its.toArray[i]? = some x' := hP
      have h2 : its.toArray[i]? = some u := by simpa using hu
      rw [h1] at h2
      exact Option.some.inj h2
    subst ex
    refine ⟨_, rfl, wpAny_letOwnedTupleGo_enum (s := { s with heap := h', toks := tk + 1 }) ho fun h'' he' sb => ?_⟩
    have q2 : h''.get? s.heap.objs.size = some { cls := .type "tuple", data := .seq #[.int i tk, x'] } := (sb.2 _ (Nat.ne_of_gt le1)).trans hT
    have new : ObjOk X.prog X.w (upd H s.heap.objs.size (.tup [.int (i : Nat), x])) h'' s.heap.objs.size (.tup [.int (i : Nat), x]) :=
      ⟨by show 2 ≤ sizeLine; decide, [.int i tk, x'], .cons ⟨_, rfl⟩ (.cons ru .nil), ⟨_, q2, rfl, _, rfl⟩⟩
    have I1 : Inv X pins σ (upd H s.heap.objs.size (.tup [.int (i : Nat), x])) { s with heap := h'', toks := tk + 1 } :=
      I.turnedNew (ch := [e, it]) (fun b ob hb q => (sb.2 b (fun z => hb (by simp [z]))).trans (hk b ob (fun z => hb (by simp [z])) (fun z => hb (by simp [z])) q)) hf (Nat.le_refl _) new
    refine ⟨.ref s.heap.objs.size, _, I1, rfl, ⟨_, x, rfl, I.hok.fresh (Nat.le_refl _), rfl, fun ys hy => by rw [I.tuple_inj hy hq]; exact hx⟩, ⟨⟨x', ?_⟩, hs'.1.at fun o q => (sb.2 it (Ne.symm hne)).trans q, hne, ha1, ha2⟩, fun b hb => ?_⟩
    · rw [show ((i + 1 : Nat) : Int) = (i : Int) + 1 by omega]
      exact he'
    · have hb' : b < s.heap.objs.size := by
        have e' : b = e ∨ b = it := by simpa using hb
        rcases e' with rfl | rfl
        · exact le1
        · exact le2
      rw [upd_ne (Nat.ne_of_lt hb')]
      exact (hf b hb).1
  done := by
    intro X hP hw hK hc i pins s σ H E I hf st hg
    subst hP hw hK
    obtain ⟨⟨old, he⟩, hit, hne, ha1, ha2⟩ := st
    obtain ⟨xs, hq, hx⟩ := hg
    obtain ⟨its, rv, p, hz⟩ := I.tuple hq
    obtain ⟨f0, f1, f2, f3, f4, f5⟩ := hf it (by simp)
    have hl := rv.length
    have hh : X.A.in1.handled = none := I.ok.hd hc
    have ei : its.toArray.size = i := by rw [List.size_toArray]; omega
    exact wpAny_pyNext_enum_endD (Draws.tuple hh it a ha1 its.toArray) he ⟨by rw [ei]; exact hit, p⟩ fun h' eb => ⟨rfl, I.turned (t' := s.toks) (fun b o hb q => eb b o hb q) f0 f1 f3 f4 f5⟩
  self := fun A i s Q E st h => by
    obtain ⟨⟨_, he⟩, _⟩ := st
    exact wpAny_pyIter_enum he h
def iEnT (K : PySem.W.Frag) (ta : TA) : TI := fun σ H R => ta σ H fun vs H1 => ∃ a xs, vs = [.ref a] ∧ SqT K H1 a xs ∧ R (IteT K a) H1
theorem pi_enumT {X : Cx} {e : Expr} {ta : TA} {p pos tpos : Pos} {elts : List Expr} {kk : Nat} (hg : Gl X "enumerate") (hm : X.mg "enumerate" = none) (ha : PA X [e] ta) (hs : starEach [e] X.env = [(false, eval e X.env)] := by rfl) :
    PI X (.Tuple elts kk tpos) (.Call (.Name "enumerate" p) [e] [] pos) (iEnT X.K ta) := by
  refine ⟨fun pins s σ H R I h => ?_⟩
  refine PyProof.Rows.Call_ (ld_blt I hg hm (show bootBuiltins "enumerate" = some (.type "enumerate") by decide +kernel) (PyProof.Rows.callWith_type1 (thn (ha.run pos pins s σ H _ I h) fun us s1 ⟨vs, H1, I1, r1, q1⟩ => ?_) hs rfl))
  obtain ⟨a, xs, rfl, hq, q⟩ := q1
  obtain ⟨u, rfl, ru⟩ := r1.one
  cases ru
  obtain ⟨its, rv, p', hz⟩ := I1.tuple hq
  refine call_enum_any (begins_tuple a its.toArray) p' fun h' he hit hsz hk => wpAny_pyIter_enum he ?_
  have I2 : Inv X pins σ H1 { s1 with heap := h' } := I1.kept (t' := s1.toks) hk
  have la : a < s1.heap.objs.size := by obtain ⟨o, q, _⟩ := p'; exact Heap.lt_size q
  refine ⟨s1.heap.objs.size + 1, [s1.heap.objs.size + 1, s1.heap.objs.size], _, _, H1, rfl, I2, turn_enumT a (s1.heap.objs.size + 1) s1.heap.objs.size, ⟨⟨.none, he⟩, ⟨_, hit, rfl, rfl⟩, Nat.succ_ne_self _, Nat.ne_of_lt la, Nat.ne_of_gt (Nat.lt_succ_of_lt la)⟩, fun b hb => ?_, q⟩
  have le : s1.heap.objs.size ≤ b := by
    have e' : b = s1.heap.objs.size + 1 ∨ b = s1.heap.objs.size := by simpa using hb
    rcases e' with z | z <;> rw [z]
    · exact Nat.le_succ _
    · exact Nat.le_refl _
  exact I1.fpOk le (I1.hok.fresh le)
end EV
namespace EV
open PySem PySem.Spec L2

/-! ### loops over what is walked -/
/-- what ties the walked thing to the heap; it stays while the cells' list grows and tuples stay -/
structure SrcOk (p : Pm) (J : It) (s : Src) (L : Hp → List Addr → Prop) : Prop where
  mono : ∀ H H' m m', m <+: m' → (∀ a xs, H a = some (.tup xs) → H' a = some (.tup xs)) → (∀ a o x, H a = some (.frz o x) → H' a = some (.frz o x)) → L H m → L H' m'
  go : ∀ (i : Nat) (x : Val) (H : Hp) (m : List Addr) (st : Store), SR p H m st → L H m → s.here st → s.items[i]? = some x → J.go i H ∧ ∀ x' H', J.yld i H x' H' → ∃ m', Ext H H' m m' ∧ SR p H' m' st ∧ VR p.K H' m' x x'
  stop : ∀ (H : Hp) (m : List Addr) (st : Store), SR p H m st → L H m → s.here st → J.stop s.items.length H
theorem forL_here {s : Src} {g : Tg} {b : Sm} {xs : List Val} {ρ : Slots} {st : Store} (h : forL s g b xs ρ st ≠ .bad) : s.here st := by
  cases xs with
  | nil =>
    unfold forL at h
    split at h
    · assumption
    · exact absurd rfl h
  | cons x xs =>
    unfold forL at h
    split at h
    · assumption
    · exact absurd rfl h
theorem AfS.nbad {p : Pm} {W : WX} {D : Ends} {H : Hp} {m : List Addr} {r : RS} (h : AfS p W D H m r) : r ≠ .bad := fun e => by rw [e] at h; exact h
section
variable {X : Cx} {W : WX}
theorem for_src {p : Pm} {J : It} {s : Src} {L : Hp → List Addr → Prop} (S : SrcOk p J s L) {g : Tg} {b : Sm} {D : Ends} {σ : L2.St} {H : Hp} {m : List Addr} {ρ : Slots} {st : Store} (er : ER p H m σ ρ) (sr : SR p H m st) (l : L H m)
    (af : AfS p W D H m (forL s g b s.items ρ st)) :
    ∃ Wv : Nat → Nat → L2.St → Hp → Prop, (∃ k, Wv 0 k σ H) ∧ ∀ i k σ H, Wv i k σ H →
      (J.stop i H ∧ D.nx σ H) ∨ (J.go i H ∧ ∃ N : L2.St → Hp → Prop, (∀ σ' H', N σ' H' → ∃ k', k' < k ∧ Wv (i + 1) k' σ' H') ∧ ∀ x H', J.yld i H x H' → TGt p g x σ H' fun σ2 H2 => TSm p W b { D with nx := N, ct := N, bk := D.nx } σ2 H2) := by
  refine ⟨fun i k σ H => k = s.items.length - i ∧ i ≤ s.items.length ∧ ∃ m ρ st, ER p H m σ ρ ∧ SR p H m st ∧ L H m ∧ AfS p W D H m (forL s g b (s.items.drop i) ρ st), ⟨_, rfl, Nat.zero_le _, m, ρ, st, er, sr, l, af⟩, ?_⟩
  rintro i k σ H ⟨rfl, hi, m, ρ, st, er, sr, l, af⟩
  have hh := forL_here af.nbad
  by_cases hlt : i < s.items.length
  · have ed : s.items.drop i = s.items[i] :: s.items.drop (i + 1) := List.drop_eq_getElem_cons hlt
    rw [ed] at af
    obtain ⟨g1, g2⟩ := S.go i s.items[i] H m st sr l hh (List.getElem?_eq_getElem hlt)
    refine .inr ⟨g1, fun σ' H' => i + 1 ≤ s.items.length ∧ ∃ m ρ st, ER p H' m σ' ρ ∧ SR p H' m st ∧ L H' m ∧ AfS p W D H' m (forL s g b (s.items.drop (i + 1)) ρ st),
      fun σ' H' q => ⟨s.items.length - (i + 1), by omega, rfl, q.1, q.2⟩, fun x H' y => ?_⟩
    obtain ⟨m', e', sr', vr'⟩ := g2 x H' y
    unfold forL at af
    rw [if_pos hh] at af
    cases hg : g s.items[i] ρ with
    | none => rw [hg] at af; exact af.elim
    | some ρ1 =>
      rw [hg] at af
      refine ⟨m', s.items[i], ρ, ρ1, vr', er.mono e', hg, fun σ2 er2 => ⟨m', ρ1, st, er2, sr', ?_⟩⟩
      have l' := S.mono _ _ _ _ e'.pre e'.tup e'.frz l
      have af := AfS.move af e'
      simp only at af
      cases hb : b ρ1 st with
      | nx ρ2 st2 =>
        rw [hb] at af
        exact fun σ' H2 m2 e2 er2 sr2 => ⟨hlt, m2, ρ2, st2, er2, sr2, S.mono _ _ _ _ e2.pre e2.tup e2.frz l', AfS.move af e2⟩
      | ct ρ2 st2 =>
        rw [hb] at af
        exact fun σ' H2 m2 e2 er2 sr2 => ⟨hlt, m2, ρ2, st2, er2, sr2, S.mono _ _ _ _ e2.pre e2.tup e2.frz l', AfS.move af e2⟩
      | bk ρ2 st2 => rw [hb] at af; exact af
      | rt v st2 => rw [hb] at af; exact af
      | ex c fs ρ2 st2 => rw [hb] at af; exact af
      | bad => rw [hb] at af; exact af
  · have e : i = s.items.length := by omega
    subst e
    rw [List.drop_length] at af
    unfold forL at af
    rw [if_pos hh] at af
    exact .inl ⟨S.stop H m st sr l hh, af σ H m (Ext.refl H m) er sr⟩

/-! ### the walked things -/
theorem src_cell {p : Pm} {r : Nat} {a : Addr} {xs : List Val} : SrcOk p (Itl p.K a) (.cell r xs) (fun _ m => m[r]? = some a) where
  mono := fun H H' m m' hp _ _ h => pre_get hp h
  go := fun i x H m st sr l hh hx => by
    have go : ∀ vs, SqL p.K H a vs → VRs p.K H m xs vs → (Itl p.K a).go i H ∧ ∀ x' H', (Itl p.K a).yld i H x' H' → ∃ m', Ext H H' m m' ∧ SR p H' m' st ∧ VR p.K H' m' x x' := fun vs h1 h2 => by
      obtain ⟨v, h3, h4⟩ := h2.get hx
      refine ⟨⟨vs, v, h1, h3⟩, fun x' H' ⟨e, y⟩ => ?_⟩
      subst e
      have := y vs h1
      rw [h3] at this; cases this
      exact ⟨m, Ext.refl _ _, sr, h4⟩
    rcases hh with hh | hh
    · obtain ⟨b, h0, vs, h1, h2⟩ := sr.at_ hh
      rw [l] at h0; cases h0
      exact go vs (SqL.of h1) h2
    · obtain ⟨b, h0, vs, o, h1, h2⟩ := sr.at_ hh
      rw [l] at h0; cases h0
      exact go vs (.inl (.inr ⟨o, h1⟩)) h2
  stop := fun H m st sr l hh => by
    rcases hh with hh | hh
    · obtain ⟨b, h0, vs, h1, h2⟩ := sr.at_ hh
      rw [l] at h0; cases h0
      exact ⟨vs, SqL.of h1, Nat.le_of_eq h2.length⟩
    · obtain ⟨b, h0, vs, o, h1, h2⟩ := sr.at_ hh
      rw [l] at h0; cases h0
      exact ⟨vs, .inl (.inr ⟨o, h1⟩), Nat.le_of_eq h2.length⟩
/-- a tuple that is told -/
def LTup (p : Pm) (a : Addr) (xs : List Val) : Hp → List Addr → Prop := fun H m => ∃ vs, H a = some (.tup vs) ∧ VRs p.K H m xs vs
theorem LTup.mono {p : Pm} {a : Addr} {xs : List Val} : ∀ H H' m m', m <+: m' → (∀ a xs, H a = some (.tup xs) → H' a = some (.tup xs)) → (∀ a o x, H a = some (.frz o x) → H' a = some (.frz o x)) → LTup p a xs H m → LTup p a xs H' m' :=
  fun H H' m m' hp ht _ ⟨vs, h1, h2⟩ => ⟨vs, ht _ _ h1, VRs.mono0 hp ht h2⟩
theorem src_tup {p : Pm} {a : Addr} {xs : List Val} : SrcOk p (Itt p.K a) (.vals xs) (LTup p a xs) where
  mono := LTup.mono
  go := fun i x H m st sr ⟨vs, h1, h2⟩ hh hx => by
    obtain ⟨v, h3, h4⟩ := h2.get hx
    refine ⟨⟨vs, v, SqT.of h1, h3⟩, fun x' H' ⟨e, y⟩ => ?_⟩
    subst e
    have := y vs (SqT.of h1)
    rw [h3] at this; cases this
    exact ⟨m, Ext.refl _ _, sr, h4⟩
  stop := fun H m st sr ⟨vs, h1, h2⟩ hh => ⟨vs, SqT.of h1, Nat.le_of_eq h2.length⟩
theorem enumL_get : ∀ (xs : List Val) (j i : Nat) (x : Val), (enumL j xs)[i]? = some x → ∃ y, xs[i]? = some y ∧ x = .tup [.int ((j + i : Nat) : Int), y]
  | [], j, i, x, h => by simp [enumL] at h
  | y :: ys, j, 0, x, h => by simp [enumL] at h; exact ⟨y, rfl, by simp [h]⟩
  | y :: ys, j, i + 1, x, h => by
    obtain ⟨z, h1, h2⟩ := enumL_get ys (j + 1) i x (by simpa [enumL] using h)
    refine ⟨z, by simpa using h1, ?_⟩
    rw [h2, show j + 1 + i = j + (i + 1) by omega]
theorem enumL_len : ∀ (xs : List Val) (j : Nat), (enumL j xs).length = xs.length
  | [], j => rfl
  | y :: ys, j => by simp [enumL, enumL_len ys (j + 1)]
theorem src_enum {p : Pm} {a : Addr} {xs : List Val} : SrcOk p (IteT p.K a) (.vals (enumL 0 xs)) (LTup p a xs) where
  mono := LTup.mono
  go := fun i x H m st sr ⟨vs, h1, h2⟩ hh hx => by
    obtain ⟨y, hy, rfl⟩ := enumL_get xs 0 i x hx
    obtain ⟨v, h3, h4⟩ := h2.get hy
    refine ⟨⟨vs, v, SqT.of h1, h3⟩, fun x' H' ⟨T, z, e1, e2, e3, y'⟩ => ?_⟩
    subst e1 e3
    have := y' vs (SqT.of h1)
    rw [h3] at this; cases this
    refine ⟨m, Ext.fresh e2 _, sr.fresh e2 _, new_tup e2 (VRs.cons ?_ (VRs.cons h4 VRs.nil))⟩
    rw [Nat.zero_add]
    exact VR.int
  stop := fun H m st sr ⟨vs, h1, h2⟩ hh => ⟨vs, SqT.of h1, by rw [h2.length]; exact (enumL_len xs 0).symm⟩
theorem src_str {p : Pm} {z : Str} : SrcOk p (Its z) (.vals (z.cps.toList.map fun c => .str ⟨#[c]⟩)) (fun _ _ => True) where
  mono := fun _ _ _ _ _ _ _ _ => True.intro
  go := fun i x H m st sr _ hh hx => by
    have hx' : (z.cps.toList.map fun c => Val.str ⟨#[c]⟩)[i]? = some x := hx
    rw [List.getElem?_map, Option.map_eq_some_iff] at hx'
    obtain ⟨c, hc, rfl⟩ := hx'
    have hc' : z.cps[i]? = some c := by simpa using hc
    refine ⟨(Array.getElem?_eq_some_iff.mp hc').1, fun x' H' ⟨e, c2, e1, e2⟩ => ?_⟩
    subst e e2
    rw [hc'] at e1; cases e1
    exact ⟨m, Ext.refl _ _, sr, VR.str⟩
  stop := fun H m st sr _ hh => by
    show z.cps.size ≤ (z.cps.toList.map _).length
    simp
theorem rangeL_get : ∀ (n : Nat) (lo : Int) (i : Nat) (x : Val), (rangeL lo n)[i]? = some x → i < n ∧ x = .int (lo + i)
  | 0, lo, i, x, h => by simp [rangeL] at h
  | n + 1, lo, 0, x, h => by simp [rangeL] at h; exact ⟨Nat.succ_pos _, by simp [h]⟩
  | n + 1, lo, i + 1, x, h => by
    obtain ⟨h1, h2⟩ := rangeL_get n (lo + 1) i x (by simpa [rangeL] using h)
    refine ⟨by omega, ?_⟩
    rw [h2, show lo + 1 + (i : Int) = lo + ((i + 1 : Nat) : Int) by omega]
theorem rangeL_len : ∀ (n : Nat) (lo : Int), (rangeL lo n).length = n
  | 0, lo => rfl
  | n + 1, lo => by simp [rangeL, rangeL_len n (lo + 1)]
theorem src_range {p : Pm} {lo : Int} {n : Nat} : SrcOk p (Itr lo n) (.vals (rangeL lo n)) (fun _ _ => True) where
  mono := fun _ _ _ _ _ _ _ _ => True.intro
  go := fun i x H m st sr _ hh hx => by
    obtain ⟨h1, rfl⟩ := rangeL_get n lo i x hx
    refine ⟨h1, fun x' H' ⟨e, e1⟩ => ?_⟩
    subst e e1
    exact ⟨m, Ext.refl _ _, sr, VR.int⟩
  stop := fun H m st sr _ hh => by
    show n ≤ (rangeL lo n).length
    rw [rangeL_len]
    exact Nat.le_refl _
end
end EV
namespace EV
open PySem PySem.Spec L2

/-! ### for -/
theorem thenS_bind {α β : Type} (ρ : Slots) (r : Res α) (f : α → Store → Res β) (g : β → Store → RS) : (r.bind f).thenS ρ g = r.thenS ρ fun x st => (f x st).thenS ρ g := by cases r <;> rfl
section
variable {X : Cx} {W : WX} {tg : Expr} {body : List Stmt} {pos : Pos} {g : Tg} {b : Sm} {a a2 : Ev}
theorem seq_tup {p : Pm} {D : Ends} {σ : L2.St} {H : Hp} {m : List Addr} {ρ : Slots} {st : Store} (er : ER p H m σ ρ) (sr : SR p H m st) (af : AfS p W D H m (sFor (iSeq a) g b ρ st)) (t : ∃ xs st1, a ρ st = .ok (.tup xs) st1) :
    tFor (iTup p.K (TV p W a)) (TGt p g) (TSm p W b) D σ H := by
  unfold sFor iSeq at af
  rw [thenS_bind] at af
  refine ⟨m, ρ, st, er, sr, (AfS.thenS er af).imp ?_⟩
  rintro v H1 ⟨m1, st1, x, e1, sr1, vr1, hx, af1⟩
  obtain ⟨xs, st1', h1⟩ := t
  rw [hx] at h1; cases h1
  obtain ⟨c, vs, rfl, h2, h3⟩ := vr1.tup_at
  exact ⟨c, rfl, ⟨vs, SqT.of h2⟩, for_src src_tup (er.mono e1) sr1 ⟨vs, h2, h3⟩ af1⟩
theorem seq_str {p : Pm} {D : Ends} {σ : L2.St} {H : Hp} {m : List Addr} {ρ : Slots} {st : Store} (er : ER p H m σ ρ) (sr : SR p H m st) (af : AfS p W D H m (sFor (iSeq a) g b ρ st)) (t : ∃ z st1, a ρ st = .ok (.str z) st1) :
    tFor (iStr (TV p W a)) (TGt p g) (TSm p W b) D σ H := by
  unfold sFor iSeq at af
  rw [thenS_bind] at af
  refine ⟨m, ρ, st, er, sr, (AfS.thenS er af).imp ?_⟩
  rintro v H1 ⟨m1, st1, x, e1, sr1, vr1, hx, af1⟩
  obtain ⟨xs, st1', h1⟩ := t
  rw [hx] at h1; cases h1
  cases vr1.str_eq
  exact ⟨_, rfl, for_src src_str (er.mono e1) sr1 True.intro af1⟩
theorem seq_lst {p : Pm} {D : Ends} {σ : L2.St} {H : Hp} {m : List Addr} {ρ : Slots} {st : Store} (er : ER p H m σ ρ) (sr : SR p H m st) (af : AfS p W D H m (sFor (iSeq a) g b ρ st)) (t : ¬ ∃ xs st1, a ρ st = .ok (.tup xs) st1) (t' : ¬ ∃ z st1, a ρ st = .ok (.str z) st1) :
    tFor (iList p.K (TV p W a)) (TGt p g) (TSm p W b) D σ H := by
  unfold sFor iSeq at af
  rw [thenS_bind] at af
  refine ⟨m, ρ, st, er, sr, (AfS.thenS er af).imp ?_⟩
  rintro v H1 ⟨m1, st1, x, e1, sr1, vr1, hx, af1⟩
  split at af1
  · exact (t ⟨_, _, hx⟩).elim
  · exact (t' ⟨_, _, hx⟩).elim
  · split at af1
    · rename_i xs q
      obtain ⟨c, rfl, h0, vs, h1, h2⟩ := sr1.deref q vr1
      exact ⟨c, rfl, ⟨vs, SqL.of h1⟩, for_src src_cell (er.mono e1) sr1 h0 af1⟩
    · rename_i xs q
      obtain ⟨c, rfl, h0, vs, o, h1, h2⟩ := sr1.deref q vr1
      exact ⟨c, rfl, ⟨vs, .inl (.inr ⟨o, h1⟩)⟩, for_src src_cell (er.mono e1) sr1 h0 af1⟩
    · exact af1.elim
  · exact af1.elim
theorem ms_for {iter : Expr} (hp : PassesOwn (model X.prog X.w) X.A X.env X.xe) (hc : X.calm = true) (hi : PE X iter (TV (pmOf X) W a)) (hg : PG X tg (TGt (pmOf X) g)) (hb : PSs X body (TSm (pmOf X) W b))
    (hs : ∀ x, foldedSetIterable iter X.env x = pure x := by intro _; rfl) : PS X (.For tg iter body [] pos) (TSm (pmOf X) W (sFor (iSeq a) g b)) :=
  ((ps_for hp hc (pi_list hi) hg hb hs).or ((ps_for hp hc (pi_tup hi) hg hb hs).or (ps_for hp hc (pi_str hi) hg hb hs))).imp fun D σ H ⟨m, ρ, st, er, sr, af⟩ => by
    by_cases t : ∃ xs st1, a ρ st = .ok (.tup xs) st1
    · exact .inr (.inl (seq_tup er sr af t))
    · by_cases t' : ∃ xs st1, a ρ st = .ok (.str xs) st1
      · exact .inr (.inr (seq_str er sr af t'))
      · exact .inl (seq_lst er sr af t t')
theorem one_imp {p : Pm} {D : Ends} {σ : L2.St} {H : Hp} {m : List Addr} {ρ : Slots} {st : Store} {f : Val → Store → RS} (er : ER p H m σ ρ) (sr : SR p H m st) (af : AfS p W D H m ((a ρ st).thenS ρ f)) :
    TL p W (lCons a lNil) σ H fun vs H1 => ∃ v m1 st1 x, vs = [v] ∧ Ext H H1 m m1 ∧ SR p H1 m1 st1 ∧ VR p.K H1 m1 x v ∧ a ρ st = .ok x st1 ∧ AfS p W D H1 m1 (f x st1) := by
  refine ⟨m, ρ, st, er, sr, ?_⟩
  have h := AfS.thenS (R := RV p.K) er af
  unfold lCons lNil
  cases q : a ρ st with
  | ok x st1 =>
    rw [q] at h
    intro vs H' m' e' vr' sr'
    obtain ⟨v, rfl, h1⟩ := VRs.one vr'
    obtain ⟨m2, st2, x2, e2, s2, v2, q2, af2⟩ := h v H' m' e' h1 sr'
    cases q2
    exact ⟨v, m2, st1, x, rfl, e2, s2, v2, rfl, af2⟩
  | ex c fs st1 => rw [q] at h; exact h
  | bad => rw [q] at h; exact h
theorem ms_range1 {e : Expr} {p0 p1 : Pos} (hp : PassesOwn (model X.prog X.w) X.A X.env X.xe) (hc : X.calm = true) (hr : Gl X "range") (hm : X.mg "range" = none) (hi : PA X [e] (TL (pmOf X) W (lCons a lNil))) (hg : PG X tg (TGt (pmOf X) g)) (hb : PSs X body (TSm (pmOf X) W b))
    (hs : starEach [e] X.env = [(false, eval e X.env)] := by rfl) (hs' : ∀ x, foldedSetIterable (.Call (.Name "range" p0) [e] [] p1) X.env x = pure x := by intro _; rfl) :
    PS X (.For tg (.Call (.Name "range" p0) [e] [] p1) body [] pos) (TSm (pmOf X) W (sFor (iRange1 a) g b)) := (ps_for hp hc (pi_range1 hr hm hi hs) hg hb hs').imp fun D σ H ⟨m, ρ, st, er, sr, af⟩ => by
  unfold sFor iRange1 at af
  rw [thenS_bind] at af
  obtain ⟨m0, ρ0, st0, er0, sr0, af0⟩ := one_imp er sr af
  refine ⟨m0, ρ0, st0, er0, sr0, af0.imp ?_⟩
  rintro vs H1 ⟨v, m1, st1, x, rfl, e1, sr1, vr1, hx, af1⟩
  split at af1
  · split at af1
    · rename_i hz
      cases vr1.int_eq
      exact ⟨_, rfl, hz.1, hz.2, for_src src_range (er.mono e1) sr1 True.intro af1⟩
    · exact af1.elim
  · exact af1.elim
theorem ms_enum {e : Expr} {elts : List Expr} {kk : Nat} {tpos p0 p1 : Pos} (hp : PassesOwn (model X.prog X.w) X.A X.env X.xe) (hc : X.calm = true) (hr : Gl X "enumerate") (hm : X.mg "enumerate" = none) (hi : PA X [e] (TL (pmOf X) W (lCons a lNil))) (hg : PG X (.Tuple elts kk tpos) (TGt (pmOf X) g)) (hb : PSs X body (TSm (pmOf X) W b))
    (hs : starEach [e] X.env = [(false, eval e X.env)] := by rfl) (hs' : ∀ x, foldedSetIterable (.Call (.Name "enumerate" p0) [e] [] p1) X.env x = pure x := by intro _; rfl) :
    PS X (.For (.Tuple elts kk tpos) (.Call (.Name "enumerate" p0) [e] [] p1) body [] pos) (TSm (pmOf X) W (sFor (EV.iEnum a) g b)) := (ps_for hp hc (pi_enumT hr hm hi hs) hg hb hs').imp fun D σ H ⟨m, ρ, st, er, sr, af⟩ => by
  unfold sFor EV.iEnum at af
  rw [thenS_bind] at af
  obtain ⟨m0, ρ0, st0, er0, sr0, af0⟩ := one_imp er sr af
  refine ⟨m0, ρ0, st0, er0, sr0, af0.imp ?_⟩
  rintro vs H1 ⟨v, m1, st1, x, rfl, e1, sr1, vr1, hx, af1⟩
  split at af1
  · obtain ⟨c, ws, rfl, h1, h2⟩ := vr1.tup_at
    exact ⟨c, ws, rfl, SqT.of h1, for_src src_enum (er.mono e1) sr1 ⟨ws, h1, h2⟩ af1⟩
  · exact af1.elim

/-! ### while -/
theorem ms_while {c : Expr} {t : Et} (hp : PassesOwn (model X.prog X.w) X.A X.env X.xe) (hc : PT X c (TBl (pmOf X) W t)) (hb : PSs X body (TSm (pmOf X) W b)) : PS X (.While c body [] pos) (TSm (pmOf X) W (sWhile t b)) :=
  (ps_while hp hc hb).imp fun D σ H ⟨m, ρ, st, er, sr, af⟩ => by
    unfold sWhile at af
    split at af
    · rename_i hn
      generalize Classical.choose hn = n at af
      refine ⟨fun n σ H => ∃ m ρ st, ER (pmOf X) H m σ ρ ∧ SR (pmOf X) H m st ∧ AfS (pmOf X) W D H m (whileN t b n ρ st), ⟨n, m, ρ, st, er, sr, af⟩, ?_⟩
      rintro n σ H ⟨m, ρ, st, er, sr, af⟩
      cases n with
      | zero => exact af.elim
      | succ n =>
        unfold whileN at af
        refine ⟨m, ρ, st, er, sr, (AfS.thenS er af).imp ?_⟩
        rintro v H1 ⟨m1, st1, x, e1, sr1, vr1, hx, af1⟩
        have hv : x = v := vr1
        subst hv
        cases x with
        | false => exact af1 σ H1 m1 (Ext.refl _ _) (er.mono e1) sr1
        | true =>
          simp only [if_true] at af1 ⊢
          refine ⟨fun σ' H' => ∃ m ρ st, ER (pmOf X) H' m σ' ρ ∧ SR (pmOf X) H' m st ∧ AfS (pmOf X) W D H' m (whileN t b n ρ st), fun σ' H' q => ⟨n, Nat.lt_succ_self n, q⟩, m1, ρ, st1, er.mono e1, sr1, ?_⟩
          cases q : b ρ st1 with
          | nx ρ2 st2 => rw [q] at af1; exact fun σ' H2 m2 e2 er2 sr2 => ⟨m2, ρ2, st2, er2, sr2, AfS.move af1 e2⟩
          | ct ρ2 st2 => rw [q] at af1; exact fun σ' H2 m2 e2 er2 sr2 => ⟨m2, ρ2, st2, er2, sr2, AfS.move af1 e2⟩
          | bk ρ2 st2 => rw [q] at af1; exact af1
          | rt v st2 => rw [q] at af1; exact af1
          | ex c fs ρ2 st2 => rw [q] at af1; exact af1
          | bad => rw [q] at af1; exact af1
    · exact af.elim
end

/-! ### comprehensions -/
section
variable {p : Pm} {H : Hp} {m : List Addr}
theorem ER.mono0 {H' : Hp} {m' : List Addr} {σ : L2.St} {ρ : Slots} (E : ER p H m σ ρ) (hp : m <+: m') (ht : ∀ a xs, H a = some (.tup xs) → H' a = some (.tup xs)) : ER p H' m' σ ρ :=
  ⟨E.len, fun i x h => let ⟨v, h1, h2⟩ := E.slot i x h; ⟨v, h1, VR.mono0 hp ht h2⟩⟩
theorem tup_over {H4 : Hp} {D : Addr} {o : HO} (nt : ∀ xs, H4 D ≠ some (.tup xs)) : ∀ a xs, H4 a = some (.tup xs) → upd H4 D o a = some (.tup xs) := fun a xs h => by
  rw [upd_ne (fun e => nt xs (by rw [← e]; exact h))]
  exact h
theorem frz_over {H4 : Hp} {D : Addr} {o : HO} (nf : ∀ q x, H4 D ≠ some (.frz q x)) : ∀ a q x, H4 a = some (.frz q x) → upd H4 D o a = some (.frz q x) := fun a q x h => by
  rw [upd_ne (fun e => nf q x (by rw [← e]; exact h))]
  exact h
theorem Ext.over {H1 H4 : Hp} {m1 m4 : List Addr} {D : Addr} {o : HO} (e : Ext H1 H4 m1 m4) (n : H1 D = none) (nt : ∀ xs, H4 D ≠ some (.tup xs)) : Ext H1 (upd H4 D o) m1 m4 :=
  ⟨e.pre, e.new, fun a u h k => by rw [upd_ne (ne_of_none h n)]; exact e.oth a u h k, fun a xs h => tup_over nt a xs (e.tup a xs h), fun a q x h => by rw [upd_ne (ne_of_none h n)]; exact e.frz a q x h⟩
theorem SR.over {st : Store} {D : Addr} {o : HO} (S : SR p H m st) (nd : D ∉ m) (nt : ∀ xs, H D ≠ some (.tup xs)) : SR p (upd H D o) m st :=
  ⟨S.len, S.nd, fun r a c h1 h2 => (S.cell r a c h1 h2).mono0 (List.prefix_refl _) (tup_over nt) fun u h => by
    rw [upd_ne (fun e => nd (by rw [← e]; exact List.mem_of_getElem? h1))]
    exact h⟩
end
/-- a block's target: it stores own names alone -/
def TGc (p : Pm) (own : List Nat) (g : Tg) : TG := fun v σ H Q => ∃ m x ρ ρ', VR p.K H m x v ∧ ER p H m σ ρ ∧ g x ρ = some ρ' ∧ ∀ σ', ER p H m σ' ρ' → wipe σ' own = wipe σ own → Q σ' H
def TGcs (p : Pm) (own : List Nat) (g : Tgs) : TGs := fun vs σ H Q => ∃ m xs ρ ρ', VRs p.K H m xs vs ∧ ER p H m σ ρ ∧ g xs ρ = some ρ' ∧ ∀ σ', ER p H m σ' ρ' → wipe σ' own = wipe σ own → Q σ' H
theorem wipe_set (σ : L2.St) (i : Nat) (v : Option V) : ∀ own : List Nat, i ∈ own → wipe (σ.set i v) own = wipe σ own
  | [], h => by cases h
  | j :: own, h => by
    unfold L2.wipe
    by_cases hj : i = j
    · subst hj
      have go : ∀ own : List Nat, (wipe (σ.set i v) own).set i none = (wipe σ own).set i none := fun own => by
        induction own with
        | nil => show (σ.set i v).set i none = σ.set i none; rw [List.set_set]
        | cons k own ih =>
          unfold L2.wipe
          by_cases hk : k = i
          · subst hk; rw [List.set_set, List.set_set]; exact ih
          · rw [List.set_comm _ _ hk, List.set_comm _ _ hk, ih]
      exact go own
    · rw [wipe_set σ i v own ((List.mem_cons.mp h).resolve_left hj)]
theorem wipe_idem (σ : L2.St) (own : List Nat) : wipe (wipe σ own) own = wipe σ own := by
  have go : ∀ (l : List Nat), (∀ i ∈ l, i ∈ own) → wipe (wipe σ l) own = wipe σ own := fun l => by
    induction l with
    | nil => intro _; rfl
    | cons k l ih =>
      intro h
      show wipe ((wipe σ l).set k none) own = _
      rw [wipe_set _ _ _ _ (h k List.mem_cons_self)]
      exact ih fun i hi => h i (List.mem_cons_of_mem _ hi)
  exact go own fun i hi => hi
section
variable {X : Cx} {W : WX} {pos : Pos} {own : List Nat}
theorem mgc_of {e : Expr} {i : Nat} (h : PG X e (gName i)) (ho : i ∈ own) : PG X e (TGc (pmOf X) own (gSlot i)) := h.imp fun v σ H Q ⟨m, x, ρ, ρ', vr, er, hg, q⟩ => by
  unfold gSlot at hg
  split at hg
  · cases hg
    exact q _ (er.set vr) (wipe_set σ i _ own ho)
  · cases hg
theorem mgcs_nil : PGs X [] (TGcs (pmOf X) own gsNil) := pgs_nil.imp fun vs σ H Q ⟨m, xs, ρ, ρ', vr, er, hg, q⟩ => by
  unfold gsNil at hg
  split at hg
  · cases hg
    exact ⟨vr.nil_inv, q _ er rfl⟩
  · cases hg
theorem mgcs_cons {e : Expr} {es : List Expr} {g : Tg} {gs : Tgs} (h1 : PG X e (TGc (pmOf X) own g)) (h2 : PGs X es (TGcs (pmOf X) own gs)) (hs : (assignEach (e :: es) X.env).map (·.2) = assign e X.env :: (assignEach es X.env).map (·.2) := by rfl) :
    PGs X (e :: es) (TGcs (pmOf X) own (gsCons g gs)) := (pgs_cons h1 h2 hs).imp fun vs σ H Q ⟨m, xs, ρ, ρ', vr, er, hg, q⟩ => by
  unfold gsCons at hg
  split at hg
  · rename_i x r
    split at hg
    · rename_i ρ1 e1
      obtain ⟨v, vs', rfl, hv, hr⟩ := vr.cons_inv
      exact ⟨v, vs', rfl, m, x, ρ, ρ1, hv, er, e1, fun σ' er' w1 => ⟨m, r, ρ1, ρ', hr, er', hg, fun σ2 er2 w2 => q σ2 er2 (w2.trans w1)⟩⟩
    · cases hg
  · cases hg
theorem mgc_tup {es : List Expr} {k n : Nat} {g : Tgs} (hc : X.calm = true) (h : PGs X es (TGcs (pmOf X) own g)) (hm : TgMany n g) (hn : (assignEach es X.env).length = n := by rfl) (hst : (assignEach es X.env).findIdx? (·.1) = none := by rfl) :
    PG X (.Tuple es k pos) (TGc (pmOf X) own (gTupT g)) := (pg_tup hc h hn hst).imp fun v σ H Q ⟨m, x, ρ, ρ', vr, er, hg, q⟩ => by
  unfold gTupT at hg
  split at hg
  · obtain ⟨a, vs, rfl, h1, h2⟩ := vr.tup_inv
    exact ⟨a, vs, rfl, h1, by rw [h2.length]; exact hm _ _ _ hg, m, _, ρ, ρ', h2, er, hg, q⟩
  · cases hg
end
end EV
namespace EV
open PySem PySem.Spec L2

abbrev W0 : WX := fun _ _ _ _ => False
theorem Ext.hidden {H H' : Hp} {m m' : List Addr} {D : Addr} {o : HO} (e : Ext H H' m m') (nd : D ∉ m) (h : H D = some o) : H' D = some o ∧ D ∉ m' :=
  ⟨e.oth D o h nd, fun q => by rw [e.new D q nd] at h; cases h⟩
theorem lc_src {p : Pm} {J : It} {s : Src} {L : Hp → List Addr → Prop} (S : SrcOk p J s L) {g : Tg} {t : Et} {e : Ev} {own : List Nat} {D : Addr} {σ : L2.St} {H1 : Hp} {m1 : List Addr} {ρ : Slots} {st st' : Store} {ys : List Val}
    (er : ER p H1 m1 (wipe σ own) (wipeS ρ own)) (sr : SR p H1 m1 st) (l : L H1 m1) (n : H1 D = none) (hc : compL s g t e (wipeS ρ own) s.items st = .ok ys st') (hz : ys.length ≤ sizeLine) {Qd : Hp → Prop}
    (hq : ∀ H' m' acc, Ext H1 H' m1 m' → SR p H' m' st' → D ∉ m' → H' D = some (.lst acc) → VRs p.K H' m' ys acc → Qd H') :
    ∃ Wv : Nat → Nat → Hp → Prop, (∃ k, Wv 0 k (upd H1 D (.lst []))) ∧ ∀ i k H, Wv i k H →
      (J.stop i H ∧ Qd H) ∨ (J.go i H ∧ ∃ Nx : Hp → Prop, (∀ H', Nx H' → ∃ k', k' < k ∧ Wv (i + 1) k' H') ∧ ∀ x H', J.yld i H x H' → TGc p own g x (wipe σ own) H' fun σ2 H2 => wipe σ2 own = wipe σ own ∧
        TBl p W0 t σ2 H2 fun b H3 => if b = true then TV p W0 e σ2 H3 fun y H4 => ∃ acc, H4 D = some (.lst acc) ∧ acc.length < sizeLine ∧ Nx (upd H4 D (.lst (acc ++ [y]))) else Nx H3) := by
  have nd1 : D ∉ m1 := fun q => by obtain ⟨o, ho, _⟩ := sr.has q; rw [n] at ho; cases ho
  have nt1 : ∀ xs, H1 D ≠ some (.tup xs) := fun xs q => by rw [n] at q; cases q
  let P : Nat → Hp → Prop := fun i H => i ≤ s.items.length ∧ ∃ m st0 done rest acc, Ext H1 H m1 m ∧ SR p H m st0 ∧ L H m ∧ D ∉ m ∧ H D = some (.lst acc) ∧ VRs p.K H m done acc ∧
    compL s g t e (wipeS ρ own) (s.items.drop i) st0 = .ok rest st' ∧ ys = done ++ rest
  refine ⟨fun i k H => k = s.items.length - i ∧ P i H, ⟨_, rfl, Nat.zero_le _, m1, st, [], ys, [], Ext.over (Ext.refl _ _) n nt1, sr.over nd1 nt1, S.mono _ _ _ _ (List.prefix_refl _) (tup_over nt1) (frz_over fun q x z => by rw [n] at z; cases z) l, nd1, upd_same, VRs.nil, hc, rfl⟩, ?_⟩
  rintro i k H ⟨rfl, hi, m, st0, dn, rest, acc, ex, sr0, l0, nd, hD, vd, hcc, hy⟩
  have ntD : ∀ {H : Hp} {acc : List V}, H D = some (.lst acc) → ∀ xs, H D ≠ some (.tup xs) := fun h xs q => by rw [h] at q; cases q
  by_cases hlt : i < s.items.length
  · have ed : s.items.drop i = s.items[i] :: s.items.drop (i + 1) := List.drop_eq_getElem_cons hlt
    rw [ed] at hcc
    unfold compL at hcc
    split at hcc
    · rename_i hh
      split at hcc
      · cases hcc
      · rename_i ρ1 hg
        obtain ⟨g1, g2⟩ := S.go i s.items[i] H m st0 sr0 l0 hh (List.getElem?_eq_getElem hlt)
        refine .inr ⟨g1, P (i + 1), fun H' q => ⟨s.items.length - (i + 1), by omega, rfl, q⟩, fun x H' y => ?_⟩
        obtain ⟨m', e', sr', vr'⟩ := g2 x H' y
        obtain ⟨hD', nd'⟩ := e'.hidden nd hD
        have ex' := ex.trans e'
        refine ⟨m', s.items[i], wipeS ρ own, ρ1, vr', er.mono ex', hg, fun σ2 er2 w2 => ⟨w2.trans (wipe_idem σ own), m', ρ1, st0, er2, sr', ?_⟩⟩
        have l' := S.mono _ _ _ _ e'.pre e'.tup e'.frz l0
        have vd' := vd.mono e'
        split at hcc
        · rename_i st1 ht
          split at hcc
          · rename_i y st2 he
            cases q : compL s g t e (wipeS ρ own) (s.items.drop (i + 1)) st2 with
            | bad => rw [q] at hcc; cases hcc
            | ex c f s => rw [q] at hcc; cases hcc
            | ok zs st3 =>
              rw [q, Res.bind_ok] at hcc
              cases hcc
              rw [ht]
              intro b H3 m3 e3 hb sr3
              have hb' : true = b := hb
              subst hb'
              rw [if_pos rfl]
              refine ⟨m3, ρ1, st1, er2.mono e3, sr3, ?_⟩
              rw [he]
              intro v H4 m4 e4 v4 sr4
              have e34 := e3.trans e4
              obtain ⟨hD4, nd4⟩ := e34.hidden nd' hD'
              have vd4 := vd'.mono e34
              have nt4 := ntD hD4
              refine ⟨acc, hD4, ?_, hlt, m4, st2, dn ++ [y], zs, acc ++ [v], Ext.over (ex'.trans e34) n nt4, sr4.over nd4 nt4, S.mono _ _ _ _ (List.prefix_refl _) (tup_over nt4) (frz_over fun q x z => by rw [hD4] at z; cases z) (S.mono _ _ _ _ e34.pre e34.tup e34.frz l'), nd4, upd_same, ?_, q, ?_⟩
              · rw [hy] at hz
                have := vd.length
                simp only [List.length_append, List.length_cons] at hz
                omega
              · exact VRs.mono0 (List.prefix_refl _) (tup_over nt4) (vd4.append (VRs.cons v4 VRs.nil))
              · rw [hy]; simp
          · cases hcc
        · rename_i st1 ht
          rw [ht]
          intro b H3 m3 e3 hb sr3
          have hb' : false = b := hb
          subst hb'
          rw [if_neg Bool.false_ne_true]
          obtain ⟨hD3, nd3⟩ := e3.hidden nd' hD'
          exact ⟨hlt, m3, st1, dn, rest, acc, ex'.trans e3, sr3, S.mono _ _ _ _ e3.pre e3.tup e3.frz l', nd3, hD3, vd'.mono e3, hcc, hy⟩
        · cases hcc
    · cases hcc
  · have e : i = s.items.length := by omega
    subst e
    rw [List.drop_length] at hcc
    unfold compL at hcc
    split at hcc
    · rename_i hh
      cases hcc
      rw [List.append_nil] at hy
      subst hy
      exact .inl ⟨S.stop H m _ sr0 l0 hh, hq H m acc ex sr0 nd hD vd⟩
    · cases hcc
section
variable {X : Cx} {W : WX} {pos : Pos} {own : List (Str × Nat)} {g : Tg} {t : Et} {e : Ev} {a : Ev}
/-- from the walked thing on -/
theorem comp_at {p : Pm} {J : It} {s : Src} {L : Hp → List Addr → Prop} (S : SrcOk p J s L) {σ : L2.St} {H1 : Hp} {m1 : List Addr} {ρ : Slots} {st1 : Store} {Q : VK} {ow : List Nat} (er : ER p H1 m1 σ ρ) (sr : SR p H1 m1 st1) (l : L H1 m1)
    (af : Af (RV p.K) p W σ H1 m1 Q (match compL s g t e (wipeS ρ ow) s.items st1 with | .ok ys st => if ys.length ≤ sizeLine then .ok (.ref st.length) (st ++ [.lst ys]) else .bad | _ => .bad)) :
    ∀ D, H1 D = none → ∃ Wv : Nat → Nat → Hp → Prop, (∃ k, Wv 0 k (upd H1 D (.lst []))) ∧ ∀ i k H, Wv i k H →
      (J.stop i H ∧ Q (.ref D) H) ∨ (J.go i H ∧ ∃ Nx : Hp → Prop, (∀ H', Nx H' → ∃ k', k' < k ∧ Wv (i + 1) k' H') ∧ ∀ x H', J.yld i H x H' → TGc p ow g x (wipe σ ow) H' fun σ2 H2 => wipe σ2 ow = wipe σ ow ∧
        TBl p W0 t σ2 H2 fun b H3 => if b = true then TV p W0 e σ2 H3 fun y H4 => ∃ acc, H4 D = some (.lst acc) ∧ acc.length < sizeLine ∧ Nx (upd H4 D (.lst (acc ++ [y]))) else Nx H3) := by
  intro D n
  split at af
  · rename_i ys st2 hc
    split at af
    · rename_i hz
      refine lc_src S (er.wipe ow) sr l n hc hz fun H' m' acc ex sr' nd hD vd => ?_
      have nt : ∀ xs, H' D ≠ some (.tup xs) := fun xs q => by rw [hD] at q; cases q
      have pr : m' <+: m' ++ [D] := List.prefix_append _ _
      have hh : upd H' D (.lst acc) = H' := by
        funext b
        by_cases hb : b = D
        · rw [hb, upd_same, hD]
        · rw [upd_ne hb]
      have S2 := sr'.push0 (o := .lst acc) nd nt (c := .lst ys) ⟨acc, upd_same, VRs.mono0 pr (tup_over nt) vd⟩
      rw [hh] at S2
      refine af (.ref D) H' (m' ++ [D]) ⟨ex.pre.trans pr, fun b h1 h2 => ?_, ex.oth, ex.tup, ex.frz⟩ ?_ S2
      · rcases List.mem_append.mp h1 with q | q
        · exact ex.new b q h2
        · rw [List.mem_singleton.mp q]; exact n
      · show VR p.K H' (m' ++ [D]) (.ref st2.length) (.ref D)
        unfold VR
        exact ⟨D, push_get m' D st2 sr'.len, rfl⟩
    · exact af.elim
  · exact af.elim
/-- what a block's parts mean, wherever it runs -/
structure Blk (X : Cx) (scope : Scope) (own : List (Str × Nat)) (tg : Expr) (ifs : List Expr) (elt : Expr) (g : Tg) (t : Et) (e : Ev) : Prop where
  ok : BlkOk X.N X.env.scope scope own
  hg : ∀ (s : Shared) (H : Hp) (C : Addr) (cl : List (Str × Addr)) (fp : List Addr), PG (X.blk s H scope (compEnvC scope cl C X.env) fp) tg (TGc (pmOf X) (own.map (·.2)) g)
  ht : ∀ (s : Shared) (H : Hp) (C : Addr) (cl : List (Str × Addr)) (fp : List Addr), PTs (X.blk s H scope (compEnvC scope cl C X.env) fp) ifs (TBl (pmOf X) W0 t)
  he : ∀ (s : Shared) (H : Hp) (C : Addr) (cl : List (Str × Addr)) (fp : List Addr), PE (X.blk s H scope (compEnvC scope cl C X.env) fp) elt (TV (pmOf X) W0 e)
theorem mts_nil : PTs X [] (TBl (pmOf X) W tTrue) := ⟨fun pins s σ H Q I h => (pts_nil (X := X)).run pins s σ H Q I (let ⟨m, ρ, st, er, sr, af⟩ := h; af true H m (Ext.refl H m) rfl sr)⟩
theorem mts_one {c : Expr} (h : PT X c (TBl (pmOf X) W t)) : PTs X [c] (TBl (pmOf X) W t) := pts_one h
/-- the reading of a walk over a tuple, a list, a text, with the block behind it -/
def tComp (wi : TI) (p : Pm) (ow : List Nat) (g : Tg) (t : Et) (e : Ev) : TE := tLc wi (TGc p ow g) (TBl p W0 t) (TV p W0 e) ow
theorem cseq_tup {p : Pm} {Q : VK} {σ : L2.St} {H : Hp} {m : List Addr} {ρ : Slots} {st : Store} {ow : List Nat} (er : ER p H m σ ρ) (sr : SR p H m st) (af : Af (RV p.K) p W σ H m Q (eComp (iSeq a) ow g t e ρ st)) (tt : ∃ xs st1, a ρ st = .ok (.tup xs) st1) :
    tComp (iTup p.K (TV p W a)) p ow g t e σ H Q := by
  unfold eComp iSeq at af
  have bb : ∀ (r : Res Val) (f : Val → Store → Res Src) (k : Src → Store → Res Val), (r.bind f).bind k = r.bind fun x st => (f x st).bind k := fun r f k => by cases r <;> rfl
  rw [bb] at af
  refine ⟨m, ρ, st, er, sr, (Af.bind af).imp ?_⟩
  rintro v H1 ⟨m1, st1, x, e1, sr1, vr1, hx, af1⟩
  obtain ⟨xs, st1', h1⟩ := tt
  rw [hx] at h1; cases h1
  obtain ⟨c, vs, rfl, h2, h3⟩ := vr1.tup_at
  exact ⟨c, rfl, ⟨vs, SqT.of h2⟩, comp_at src_tup (er.mono e1) sr1 ⟨vs, h2, h3⟩ af1⟩
theorem cseq_str {p : Pm} {Q : VK} {σ : L2.St} {H : Hp} {m : List Addr} {ρ : Slots} {st : Store} {ow : List Nat} (er : ER p H m σ ρ) (sr : SR p H m st) (af : Af (RV p.K) p W σ H m Q (eComp (iSeq a) ow g t e ρ st)) (tt : ∃ z st1, a ρ st = .ok (.str z) st1) :
    tComp (iStr (TV p W a)) p ow g t e σ H Q := by
  unfold eComp iSeq at af
  have bb : ∀ (r : Res Val) (f : Val → Store → Res Src) (k : Src → Store → Res Val), (r.bind f).bind k = r.bind fun x st => (f x st).bind k := fun r f k => by cases r <;> rfl
  rw [bb] at af
  refine ⟨m, ρ, st, er, sr, (Af.bind af).imp ?_⟩
  rintro v H1 ⟨m1, st1, x, e1, sr1, vr1, hx, af1⟩
  obtain ⟨xs, st1', h1⟩ := tt
  rw [hx] at h1; cases h1
  cases vr1.str_eq
  exact ⟨_, rfl, comp_at src_str (er.mono e1) sr1 True.intro af1⟩
theorem cseq_lst {p : Pm} {Q : VK} {σ : L2.St} {H : Hp} {m : List Addr} {ρ : Slots} {st : Store} {ow : List Nat} (er : ER p H m σ ρ) (sr : SR p H m st) (af : Af (RV p.K) p W σ H m Q (eComp (iSeq a) ow g t e ρ st)) (tt : ¬ ∃ xs st1, a ρ st = .ok (.tup xs) st1) (tt' : ¬ ∃ z st1, a ρ st = .ok (.str z) st1) :
    tComp (iList p.K (TV p W a)) p ow g t e σ H Q := by
  unfold eComp iSeq at af
  have bb : ∀ (r : Res Val) (f : Val → Store → Res Src) (k : Src → Store → Res Val), (r.bind f).bind k = r.bind fun x st => (f x st).bind k := fun r f k => by cases r <;> rfl
  rw [bb] at af
  refine ⟨m, ρ, st, er, sr, (Af.bind af).imp ?_⟩
  rintro v H1 ⟨m1, st1, x, e1, sr1, vr1, hx, af1⟩
  split at af1
  · exact (tt ⟨_, _, hx⟩).elim
  · exact (tt' ⟨_, _, hx⟩).elim
  · split at af1
    · rename_i xs q
      obtain ⟨c, rfl, h0, vs, h1, h2⟩ := sr1.deref q vr1
      exact ⟨c, rfl, ⟨vs, SqL.of h1⟩, comp_at src_cell (er.mono e1) sr1 h0 af1⟩
    · rename_i xs q
      obtain ⟨c, rfl, h0, vs, o, h1, h2⟩ := sr1.deref q vr1
      exact ⟨c, rfl, ⟨vs, .inl (.inr ⟨o, h1⟩)⟩, comp_at src_cell (er.mono e1) sr1 h0 af1⟩
    · exact af1.elim
  · exact af1.elim
theorem me_comp {elt tg iter : Expr} {ifs : List Expr} {scope : Scope} (hc : X.calm = true) (hN : X.N.Nodup) (hi : PE X iter (TV (pmOf X) W a)) (B : Blk X scope own tg ifs elt g t e) (hs : ∀ x, foldedSetIterable iter X.env x = pure x := by intro _; rfl) :
    PE X (.ListComp elt [⟨tg, iter, ifs, 0⟩] scope pos) (TV (pmOf X) W (eComp (iSeq a) (own.map (·.2)) g t e)) :=
  ((pe_lc hc hN (pi_list hi) B.ok B.hg B.ht B.he hs).or ((pe_lc hc hN (pi_tup hi) B.ok B.hg B.ht B.he hs).or (pe_lc hc hN (pi_str hi) B.ok B.hg B.ht B.he hs))).imp fun σ H Q ⟨m, ρ, st, er, sr, af⟩ => by
    by_cases tt : ∃ xs st1, a ρ st = .ok (.tup xs) st1
    · exact .inr (.inl (cseq_tup er sr af tt))
    · by_cases tt' : ∃ xs st1, a ρ st = .ok (.str xs) st1
      · exact .inr (.inr (cseq_str er sr af tt'))
      · exact .inl (cseq_lst er sr af tt tt')
theorem set_comp_imp {p : Pm} {wi : TI} {ow : List Nat} {i : Nat} {c : Ev} {D : Ends} {σ : L2.St} {H : Hp} {m : List Addr} {ρ : Slots} {st : Store} (er : ER p H m σ ρ) (sr : SR p H m st) (af : AfS p W D H m (sSet c (gSlot i) ρ st))
    (h : Af (RV p.K) p W σ H m (fun x H1 => D.nx (σ.set i (some x)) H1) (c ρ st) → tComp wi p ow g t e σ H (fun x H1 => gName i x σ H1 D.nx)) : tAsg (tComp wi p ow g t e) (gName i) D σ H := by
  refine h ((AfS.thenS (R := RV p.K) er af).imp ?_)
  rintro v H1 ⟨m1, st1, x, e1, sr1, vr1, hx, af1⟩
  split at af1
  · rename_i ρ1 hg
    unfold gSlot at hg
    split at hg
    · cases hg
      exact af1 _ H1 m1 (Ext.refl _ _) ((er.mono e1).set vr1) sr1
    · cases hg
  · exact af1.elim
/-- name = [..] on one line -/
theorem ms_comp {elt tg iter : Expr} {ifs : List Expr} {scope : Scope} {i : Nat} {y : Str} {py spos : Pos} (hc : X.calm = true) (hN : X.N.Nodup) (hy : X.N[i]? = some y) (hyl : X.env.scope.names.lookup y = some .local)
    (hsw : swapsWith (.ListComp elt [⟨tg, iter, ifs, 0⟩] scope pos) (some (.Name y py)) spos.line X.env = pure true) (hi : PE X iter (TV (pmOf X) W a)) (B : Blk X scope own tg ifs elt g t e) (hs : ∀ x, foldedSetIterable iter X.env x = pure x := by intro _; rfl) :
    PS X (.Assign [.Name y py] (.ListComp elt [⟨tg, iter, ifs, 0⟩] scope pos) spos) (TSm (pmOf X) W (sSet (eComp (iSeq a) (own.map (·.2)) g t e) (gSlot i))) :=
  ((ps_setLc hc hN hy hyl hsw (pi_list hi) B.ok B.hg B.ht B.he hs).or ((ps_setLc hc hN hy hyl hsw (pi_tup hi) B.ok B.hg B.ht B.he hs).or (ps_setLc hc hN hy hyl hsw (pi_str hi) B.ok B.hg B.ht B.he hs))).imp fun D σ H ⟨m, ρ, st, er, sr, af⟩ => by
    by_cases tt : ∃ xs st1, a ρ st = .ok (.tup xs) st1
    · exact .inr (.inl (set_comp_imp er sr af fun q => cseq_tup er sr q tt))
    · by_cases tt' : ∃ xs st1, a ρ st = .ok (.str xs) st1
      · exact .inr (.inr (set_comp_imp er sr af fun q => cseq_str er sr q tt'))
      · exact .inl (set_comp_imp er sr af fun q => cseq_lst er sr q tt tt')
/-- over range(n) -/
theorem cone_imp {p : Pm} {Q : VK} {σ : L2.St} {H : Hp} {m : List Addr} {ρ : Slots} {st : Store} {f : Val → Store → Res Val} (er : ER p H m σ ρ) (sr : SR p H m st) (af : Af (RV p.K) p W σ H m Q ((a ρ st).bind f)) :
    TL p W (lCons a lNil) σ H fun vs H1 => ∃ v m1 st1 x, vs = [v] ∧ Ext H H1 m m1 ∧ SR p H1 m1 st1 ∧ VR p.K H1 m1 x v ∧ a ρ st = .ok x st1 ∧ Af (RV p.K) p W σ H1 m1 Q (f x st1) := by
  refine ⟨m, ρ, st, er, sr, ?_⟩
  have h := Af.bind (R := RV p.K) af
  unfold lCons lNil
  cases q : a ρ st with
  | ok x st1 =>
    rw [q] at h
    intro vs H' m' e' vr' sr'
    obtain ⟨v, rfl, h1⟩ := VRs.one vr'
    obtain ⟨m2, st2, x2, e2, s2, v2, q2, af2⟩ := h v H' m' e' h1 sr'
    cases q2
    exact ⟨v, m2, st1, x, rfl, e2, s2, v2, rfl, af2⟩
  | ex c fs st1 => rw [q] at h; exact h
  | bad => rw [q] at h; exact h
theorem TL_imp {p : Pm} {l : El} {σ : L2.St} {H : Hp} {Q Q' : List V → Hp → Prop} (h : TL p W l σ H Q) (i : ∀ v H', Q v H' → Q' v H') : TL p W l σ H Q' := let ⟨m, ρ, st, er, sr, af⟩ := h; ⟨m, ρ, st, er, sr, af.imp i⟩
theorem crange_at {p : Pm} {Q : VK} {σ : L2.St} {H : Hp} {m : List Addr} {ρ : Slots} {st : Store} {ow : List Nat} (er : ER p H m σ ρ) (sr : SR p H m st) (af : Af (RV p.K) p W σ H m Q (eComp (iRange1 a) ow g t e ρ st)) :
    tComp (iRng1 (TL p W (lCons a lNil))) p ow g t e σ H Q := by
  unfold eComp iRange1 at af
  have bb : ∀ (r : Res Val) (f : Val → Store → Res Src) (k : Src → Store → Res Val), (r.bind f).bind k = r.bind fun x st => (f x st).bind k := fun r f k => by cases r <;> rfl
  rw [bb] at af
  refine TL_imp (cone_imp er sr af) ?_
  rintro vs H1 ⟨v, m1, st1, x, rfl, e1, sr1, vr1, hx, af1⟩
  split at af1
  · split at af1
    · rename_i hz
      cases vr1.int_eq
      exact ⟨_, rfl, hz.1, hz.2, comp_at src_range (er.mono e1) sr1 True.intro af1⟩
    · exact af1.elim
  · exact af1.elim
theorem me_compR {elt tg x : Expr} {ifs : List Expr} {scope : Scope} {p0 p1 : Pos} (hc : X.calm = true) (hN : X.N.Nodup) (hr : Gl X "range") (hm : X.mg "range" = none) (hi : PA X [x] (TL (pmOf X) W (lCons a lNil))) (B : Blk X scope own tg ifs elt g t e)
    (hs : starEach [x] X.env = [(false, eval x X.env)] := by rfl) (hs' : ∀ y, foldedSetIterable (.Call (.Name "range" p0) [x] [] p1) X.env y = pure y := by intro _; rfl) :
    PE X (.ListComp elt [⟨tg, .Call (.Name "range" p0) [x] [] p1, ifs, 0⟩] scope pos) (TV (pmOf X) W (eComp (iRange1 a) (own.map (·.2)) g t e)) :=
  (pe_lc hc hN (pi_range1 hr hm hi hs) B.ok B.hg B.ht B.he hs').imp fun σ H Q ⟨m, ρ, st, er, sr, af⟩ => crange_at er sr af
theorem cenum_at {p : Pm} {Q : VK} {σ : L2.St} {H : Hp} {m : List Addr} {ρ : Slots} {st : Store} {ow : List Nat} (er : ER p H m σ ρ) (sr : SR p H m st) (af : Af (RV p.K) p W σ H m Q (eComp (EV.iEnum a) ow g t e ρ st)) :
    tComp (iEnT p.K (TL p W (lCons a lNil))) p ow g t e σ H Q := by
  unfold eComp EV.iEnum at af
  have bb : ∀ (r : Res Val) (f : Val → Store → Res Src) (k : Src → Store → Res Val), (r.bind f).bind k = r.bind fun x st => (f x st).bind k := fun r f k => by cases r <;> rfl
  rw [bb] at af
  refine TL_imp (cone_imp er sr af) ?_
  rintro vs H1 ⟨v, m1, st1, x, rfl, e1, sr1, vr1, hx, af1⟩
  split at af1
  · obtain ⟨c, ws, rfl, h1, h2⟩ := vr1.tup_at
    exact ⟨c, ws, rfl, SqT.of h1, comp_at src_enum (er.mono e1) sr1 ⟨ws, h1, h2⟩ af1⟩
  · exact af1.elim
theorem me_compE {elt x : Expr} {ifs elts : List Expr} {kk : Nat} {tpos : Pos} {scope : Scope} {p0 p1 : Pos} (hc : X.calm = true) (hN : X.N.Nodup) (hr : Gl X "enumerate") (hm : X.mg "enumerate" = none) (hi : PA X [x] (TL (pmOf X) W (lCons a lNil))) (B : Blk X scope own (.Tuple elts kk tpos) ifs elt g t e)
    (hs : starEach [x] X.env = [(false, eval x X.env)] := by rfl) (hs' : ∀ y, foldedSetIterable (.Call (.Name "enumerate" p0) [x] [] p1) X.env y = pure y := by intro _; rfl) :
    PE X (.ListComp elt [⟨.Tuple elts kk tpos, .Call (.Name "enumerate" p0) [x] [] p1, ifs, 0⟩] scope pos) (TV (pmOf X) W (eComp (EV.iEnum a) (own.map (·.2)) g t e)) :=
  (pe_lc hc hN (pi_enumT hr hm hi hs) B.ok B.hg B.ht B.he hs').imp fun σ H Q ⟨m, ρ, st, er, sr, af⟩ => cenum_at er sr af
theorem ms_compE {elt x : Expr} {ifs elts : List Expr} {kk : Nat} {tpos : Pos} {scope : Scope} {p0 p1 : Pos} {i : Nat} {y : Str} {py spos : Pos} (hc : X.calm = true) (hN : X.N.Nodup) (hy : X.N[i]? = some y) (hyl : X.env.scope.names.lookup y = some .local)
    (hsw : swapsWith (.ListComp elt [⟨.Tuple elts kk tpos, .Call (.Name "enumerate" p0) [x] [] p1, ifs, 0⟩] scope pos) (some (.Name y py)) spos.line X.env = pure true)
    (hr : Gl X "enumerate") (hm : X.mg "enumerate" = none) (hi : PA X [x] (TL (pmOf X) W (lCons a lNil))) (B : Blk X scope own (.Tuple elts kk tpos) ifs elt g t e)
    (hs : starEach [x] X.env = [(false, eval x X.env)] := by rfl) (hs' : ∀ y, foldedSetIterable (.Call (.Name "enumerate" p0) [x] [] p1) X.env y = pure y := by intro _; rfl) :
    PS X (.Assign [.Name y py] (.ListComp elt [⟨.Tuple elts kk tpos, .Call (.Name "enumerate" p0) [x] [] p1, ifs, 0⟩] scope pos) spos) (TSm (pmOf X) W (sSet (eComp (EV.iEnum a) (own.map (·.2)) g t e) (gSlot i))) :=
  (ps_setLc hc hN hy hyl hsw (pi_enumT hr hm hi hs) B.ok B.hg B.ht B.he hs').imp fun D σ H ⟨m, ρ, st, er, sr, af⟩ => set_comp_imp er sr af fun q => cenum_at er sr q
end
end EV
namespace EV
open PySem PySem.Spec L2 PyProof.Rows

/-! ### what a def leaves: cells that nothing reaches are dropped -/
mutual
def Val.bel (n : Nat) : Val → Bool
  | .tup xs => belowAll n xs
  | .ref r => decide (r < n)
  | _ => true
def belowAll (n : Nat) : List Val → Bool
  | [] => true
  | x :: xs => x.bel n && belowAll n xs
end
def belowK {κ : Type} (n : Nat) : List (κ × Val) → Bool
  | [] => true
  | (_, x) :: xs => x.bel n && belowK n xs
def Cell.bel (n : Nat) : Cell → Bool
  | .lst xs => belowAll n xs
  | .rol xs => belowAll n xs
  | .dK kvs => belowK n kvs
  | .dT kvs => belowK n kvs
  | .fK kvs => belowK n kvs
  | .fT kvs => belowK n kvs
  | .ins _ fs => belowK n fs
/-- the old cells are as they were, or hold nothing new -/
def Keeps (st st' : Store) : Prop := ∀ r, r < st.length → st'[r]? = st[r]? ∨ ∃ c, st'[r]? = some c ∧ c.bel st.length = true
def freshLst (st st' : Store) : Val → Option (List Val)
  | .ref r => if st.length ≤ r then match st'[r]? with
      | some (.lst ys) => if belowAll st.length ys = true then some ys else none
      | _ => none
    else none
  | _ => none
open Classical in
noncomputable def gc (st : Store) (x : Val) (st' : Store) : Val × Store :=
  if Keeps st st' ∧ st.length ≤ st'.length then
    if x.bel st.length = true then (x, st'.take st.length) else match freshLst st st' x with
      | some ys => (.ref st.length, st'.take st.length ++ [.lst ys])
      | none => (x, st')
  else (x, st')
open Classical in
noncomputable def gcR (st : Store) : Res Val → Res Val
  | .ok x st' => .ok (gc st x st').1 (gc st x st').2
  | .ex c fs st' => if Keeps st st' ∧ st.length ≤ st'.length ∧ belowK st.length fs = true then .ex c fs (st'.take st.length) else .ex c fs st'
  | .bad => .bad
section
variable {K : PySem.W.Frag} {H : Hp} {m : List Addr} {p : Pm}
theorem take_get {m : List Addr} {n r : Nat} {a : Addr} (hr : r < n) (e : m[r]? = some a) : (m.take n)[r]? = some a := by rw [List.getElem?_take_of_lt hr]; exact e
mutual
theorem VR.cut {n : Nat} : ∀ {x : Val} {v : V}, x.bel n = true → VR K H m x v → VR K H (m.take n) x v
  | .non, _, _, h => h
  | .bl _, _, _, h => h
  | .int _, _, _, h => h
  | .str _, _, _, h => h
  | .ty _, _, _, h => h
  | .kl _, _, _, h => by
    unfold VR at h ⊢
    exact h
  | .tup xs, v, b, h => by
    unfold VR at h ⊢
    unfold Val.bel at b
    obtain ⟨a, vs, h1, h2, h3⟩ := h
    exact ⟨a, vs, h1, h2, VRs.cutAt b h3⟩
  | .ref r, v, b, h => by
    unfold VR at h ⊢
    unfold Val.bel at b
    obtain ⟨a, h1, h2⟩ := h
    exact ⟨a, take_get (of_decide_eq_true b) h1, h2⟩
theorem VRs.cutAt {n : Nat} : ∀ {xs : List Val} {vs : List V}, belowAll n xs = true → VRs K H m xs vs → VRs K H (m.take n) xs vs
  | [], _, _, h => h
  | x :: xs, vs, b, h => by
    unfold VRs at h ⊢
    unfold belowAll at b
    rw [Bool.and_eq_true] at b
    obtain ⟨v, r, h1, h2, h3⟩ := h
    exact ⟨v, r, h1, VR.cut b.1 h2, VRs.cutAt b.2 h3⟩
end
theorem KVR.cut {κ : Type} {n : Nat} : ∀ {kvs : List (κ × Val)} {ws : List (κ × V)}, belowK n kvs = true → KVR K H m kvs ws → KVR K H (m.take n) kvs ws
  | [], _, _, h => h
  | (k, x) :: r, ws, b, h => by
    unfold KVR at h ⊢
    unfold belowK at b
    rw [Bool.and_eq_true] at b
    obtain ⟨v, l, h1, h2, h3⟩ := h
    exact ⟨v, l, h1, VR.cut b.1 h2, KVR.cut b.2 h3⟩
theorem CR.cut {n : Nat} {a : Addr} {c : Cell} (b : c.bel n = true) (h : CR p H m a c) : CR p H (m.take n) a c := by
  cases c with
  | lst xs => obtain ⟨vs, h1, h2⟩ := h; exact ⟨vs, h1, VRs.cutAt b h2⟩
  | rol xs => obtain ⟨vs, o, h1, h2⟩ := h; exact ⟨vs, o, h1, VRs.cutAt b h2⟩
  | dK xs => obtain ⟨vs, h1, h2⟩ := h; exact ⟨vs, h1, KVR.cut b h2⟩
  | dT xs => obtain ⟨vs, h1, h2⟩ := h; exact ⟨vs, h1, KVR.cut b h2⟩
  | fK xs => obtain ⟨vs, o, h1, h2⟩ := h; exact ⟨vs, o, h1, KVR.cut b h2⟩
  | fT xs => obtain ⟨vs, o, h1, h2⟩ := h; exact ⟨vs, o, h1, KVR.cut b h2⟩
  | ins cn xs => obtain ⟨C, dx, gs, h0, h1, h2⟩ := h; exact ⟨C, dx, gs, h0, h1, KVR.cut b h2⟩
mutual
theorem VR.bel : ∀ {x : Val} {v : V}, VR K H m x v → x.bel m.length = true
  | .non, _, _ => rfl
  | .bl _, _, _ => rfl
  | .int _, _, _ => rfl
  | .str _, _, _ => rfl
  | .ty _, _, _ => rfl
  | .kl _, _, _ => rfl
  | .tup xs, v, h => by
    unfold VR at h
    unfold Val.bel
    obtain ⟨a, vs, h1, h2, h3⟩ := h
    exact VRs.bel h3
  | .ref r, v, h => by
    unfold VR at h
    unfold Val.bel
    obtain ⟨a, h1, h2⟩ := h
    exact decide_eq_true (List.getElem?_eq_some_iff.mp h1).1
theorem VRs.bel : ∀ {xs : List Val} {vs : List V}, VRs K H m xs vs → belowAll m.length xs = true
  | [], _, _ => rfl
  | x :: xs, vs, h => by
    unfold VRs at h
    unfold belowAll
    obtain ⟨v, r, h1, h2, h3⟩ := h
    rw [VR.bel h2, VRs.bel h3]; rfl
end
theorem KVR.bel {κ : Type} : ∀ {kvs : List (κ × Val)} {ws : List (κ × V)}, KVR K H m kvs ws → belowK m.length kvs = true
  | [], _, _ => rfl
  | (k, x) :: r, ws, h => by
    unfold KVR at h
    unfold belowK
    obtain ⟨v, l, h1, h2, h3⟩ := h
    rw [VR.bel h2, KVR.bel h3]; rfl
theorem CR.bel {a : Addr} {c : Cell} (h : CR p H m a c) : c.bel m.length = true := by
  cases c with
  | lst xs => obtain ⟨vs, h1, h2⟩ := h; exact VRs.bel h2
  | rol xs => obtain ⟨vs, o, h1, h2⟩ := h; exact VRs.bel h2
  | dK xs => obtain ⟨vs, h1, h2⟩ := h; exact KVR.bel h2
  | dT xs => obtain ⟨vs, h1, h2⟩ := h; exact KVR.bel h2
  | fK xs => obtain ⟨vs, o, h1, h2⟩ := h; exact KVR.bel h2
  | fT xs => obtain ⟨vs, o, h1, h2⟩ := h; exact KVR.bel h2
  | ins cn xs => obtain ⟨C, dx, gs, h0, h1, h2⟩ := h; exact KVR.bel h2
end
theorem SR.cut {p : Pm} {H H' : Hp} {m m' : List Addr} {st st' : Store} (S : SR p H m st) (S' : SR p H' m' st') (e : Ext H H' m m') (k : Keeps st st') : SR p H' m (st'.take st.length) := by
  obtain ⟨t, rfl⟩ := e.pre
  have hm : (m ++ t).take m.length = m := by simp
  have hl := S'.len
  have hl0 := S.len
  rw [List.length_append] at hl
  refine ⟨by rw [List.length_take]; omega, S.nd, fun r a c h1 h2 => ?_⟩
  have hr : r < m.length := (List.getElem?_eq_some_iff.mp h1).1
  have hr' : r < st.length := by omega
  rw [List.getElem?_take_of_lt hr'] at h2
  have h3 := S'.cell r a c (pre_get (List.prefix_append _ _) h1) h2
  have hb : c.bel m.length = true := by
    rcases k r hr' with q | ⟨c', q, b⟩
    · rw [h2] at q
      exact (S.cell r a c h1 q.symm).bel
    · rw [h2] at q; cases q
      rw [hl0]; exact b
  have := h3.cut hb
  rwa [hm] at this
theorem Ext.cut {H H' : Hp} {m m' : List Addr} (e : Ext H H' m m') : Ext H H' m m := ⟨List.prefix_refl _, fun _ h n => absurd h n, e.oth, e.tup, e.frz⟩
theorem pre_take {m m' : List Addr} (h : m <+: m') : m'.take m.length = m := by
  obtain ⟨t, rfl⟩ := h
  simp
theorem gc_ok {p : Pm} {H H' : Hp} {m m' : List Addr} {st st' : Store} {x : Val} {v : V} (S : SR p H m st) (S' : SR p H' m' st') (e : Ext H H' m m') (h : VR p.K H' m' x v) :
    ∃ m2, Ext H H' m m2 ∧ VR p.K H' m2 (gc st x st').1 v ∧ SR p H' m2 (gc st x st').2 := by
  unfold gc
  split
  · rename_i k
    have hm := pre_take e.pre
    split
    · rename_i b
      refine ⟨m, e.cut, ?_, SR.cut S S' e k.1⟩
      have := VR.cut b h
      rwa [← S.len, hm] at this
    · split
      · rename_i ys q
        unfold freshLst at q
        split at q
        · rename_i r
          split at q
          · rename_i hr
            split at q
            · rename_i zs q2
              split at q
              · rename_i hb
                cases q
                obtain ⟨a, rfl, ha, vs, h1, h2⟩ := S'.deref q2 h
                have na : a ∉ m := fun hmem => by
                  obtain ⟨j, hj⟩ := List.mem_iff_getElem?.mp hmem
                  have hj' := pre_get e.pre hj
                  have l1 := (List.getElem?_eq_some_iff.mp hj).1
                  have e1 := (List.getElem?_eq_some_iff.mp hj').2
                  have e2 := (List.getElem?_eq_some_iff.mp ha).2
                  have := (List.getElem_inj S'.nd).mp (e1.trans e2.symm)
                  have := S.len
                  omega
                have S2 := SR.cut S S' e k.1
                have nt : ∀ xs, H' a ≠ some (.tup xs) := fun xs q => by rw [h1] at q; cases q
                have pr : m <+: m ++ [a] := List.prefix_append _ _
                have hh : upd H' a (.lst vs) = H' := by
                  funext b
                  by_cases hb : b = a
                  · rw [hb, upd_same, h1]
                  · rw [upd_ne hb]
                have v2 := VRs.cutAt hb h2
                rw [← S.len, hm] at v2
                have S3 := S2.push0 (o := .lst vs) na nt (c := .lst ys) ⟨vs, upd_same, VRs.mono0 pr (tup_over nt) v2⟩
                rw [hh] at S3
                refine ⟨m ++ [a], ⟨pr, fun b h1 h2 => ?_, e.oth, e.tup, e.frz⟩, ?_, S3⟩
                · rcases List.mem_append.mp h1 with q | q
                  · exact absurd q h2
                  · rw [List.mem_singleton.mp q]
                    exact e.new a (List.mem_of_getElem? ha) na
                · unfold VR
                  refine ⟨a, ?_, rfl⟩
                  rw [← S.len]
                  simp
              · cases q
            · cases q
          · cases q
        · cases q
      · exact ⟨m', e, h, S'⟩
  · exact ⟨m', e, h, S'⟩

/-! ### a def's promise by its meaning -/
abbrev Fun1 := List Val → Store → Res Val
abbrev WofE (E : XK) : WX := fun cls d _ H => E cls d H
def spM (p : Pm) (n : Nat) (f : Fun1) : Sp := fun vs H Q E => vs.length = n ∧ ∃ m st xs, SR p H m st ∧ VRs p.K H m xs vs ∧ Af (RV p.K) p (WofE E) [] H m Q (f xs st)
def startS (k : Nat) (xs : List Val) : Slots := xs.map some ++ List.replicate (k - xs.length) none
def bodyR : RS → Res Val
  | .nx _ st => .ok .non st
  | .rt x st => .ok x st
  | .ex c fs _ st => .ex c fs st
  | _ => .bad
noncomputable def runF (body : Sm) (k : Nat) : Fun1 := fun xs st => gcR st (bodyR (body (startS k xs) st))
theorem er_start {p : Pm} {H : Hp} {m : List Addr} {xs : List Val} {vs : List V} {N : List Str} (h : VRs p.K H m xs vs) : ER p H m (L2.start N vs) (startS N.length xs) := by
  refine ⟨by unfold L2.start startS; simp [h.length], fun i x hx => ?_⟩
  unfold startS at hx
  by_cases hi : i < xs.length
  · rw [List.getElem?_append_left (by simpa using hi), List.getElem?_map, Option.map_eq_some_iff] at hx
    obtain ⟨y, hy, e⟩ := hx
    cases e
    obtain ⟨v, h1, h2⟩ := h.get hy
    refine ⟨v, ?_, h2⟩
    unfold L2.start
    rw [List.getElem?_append_left (by simpa [h.length] using hi), List.getElem?_map, h1]
    rfl
  · rw [List.getElem?_append_right (by simpa using hi), List.getElem?_replicate] at hx
    split at hx <;> cases hx
/-- the same with the guards told -/
structure FnG (P : Program) (w : World) (K : PySem.W.Frag) (mg : Str → Option Value) (base : Heap) (k : Nat) (f : Addr) (fd : FuncData) (ps : List Str) (sp : Sp) : Prop where
  len : ∀ vs H Q E, sp vs H Q E → vs.length = ps.length
  run : ∀ (A : Around) (outer : List Env) (s : Shared) (H : Hp) (args : Args) (us : List Value) (vs : List V) (Q : VK) (E : XK), A.guards = some [] → Room k A → Env0 P w K mg base A outer s H → BindsTo s fd args (ps.zip us) → Vals vs us → sp vs H Q E →
    codeAny (model P w) A (.call (.ref f) args) (L2.CR (L2.CX P w) outer P w H s Q E) s
section
variable {P : Program} {w : World} {K : PySem.W.Frag} {mg : Str → Option Value} {base : Heap}
theorem fn_ofG {k : Nat} {f : Addr} {name qual : Str} {params : Arguments} {body : List Stmt} {scope : Scope} {dV kV doc pm cdv ct oc : Value} {an od : Option Addr} {osl : Array (Option Value)} {N ps : List Str} {sp : Sp}
    (lk : K.lookup f = some ⟨oc, od, .func (PySem.W.fnOf name qual params body scope dV kV doc pm an cdv ct), osl⟩) (hcd : PySem.W.codeIn K cdv qual = true) (S : FnScope N ps scope) (len : ∀ vs H Q E, sp vs H Q E → vs.length = ps.length)
    (hbody : ∀ (A : Around) (outer : List Env) (s : Shared) (H : Hp) (vs : List V) (Q : VK) (E : XK), (A.deeper (envOfC qual scope s.heap.objs.size f cdv)).guards = some [] → Room k (A.deeper (envOfC qual scope s.heap.objs.size f cdv)) → sp vs H Q E →
      ∃ t, PSs (cxOf (L2.CX P w) P w K mg base N qual scope f cdv A outer s H E) body t ∧ t { nx := fun _ H' => Q .non H', rt := Q } (L2.start N vs) H) :
    FnG P w K mg base (k + 1) f (PySem.W.fnOf name qual params body scope dV kV doc pm an cdv ct) ps sp := by
  refine ⟨len, fun A outer s H args us vs Q E hgd hr e0 hb r hsp => ?_⟩
  have hl := len _ _ _ _ hsp
  have inK : K.In s.heap := e0.mod.kin.keeps fun b o e => (e0.bs b o e).1
  have nolim : s.heap.NoLimit := e0.mod.nolimit.keeps fun b o e => (e0.bs b o e).1
  have kinds : ∀ y ∈ ps.zip us, scope.names.lookup y.1 = some .local ∨ (scope.names.lookup y.1 = some .cell ∧ ((cellsFrom (s.heap.objs.size + 1) scope.names []).lookup y.1).isSome = true) := by
    rintro ⟨n, v⟩ hy
    exact (S.par n (List.of_mem_zip hy).1).imp id fun q => ⟨q, PySem.W.cellsFrom_some _ _ _ (.inl q)⟩
  refine codeAny_call_function hr.depth (inK _ _ lk) rfl S.co S.gen rfl (PySem.W.codeRec_of inK hcd) (hb _ _ _ _ ?_)
  refine wpAny_newFunctionEnv_cells S.kind kinds fun env he s1 x => ?_
  subst he
  refine ⟨nolim.keeps x.toInCall.keep, codeAny_func ?_⟩
  obtain ⟨t, ht, hq⟩ := hbody A outer s H vs Q E hgd (hr.deeper _) hsp
  have I : Inv (cxOf (L2.CX P w) P w K mg base N qual scope f cdv A outer s H E) [] (L2.start N vs) H s1 := inv_start S hr.hd e0 hl r x
  refine wpAny_mono (ht.run [] s1 (L2.start N vs) H _ I hq) (fun fl s' hs => ?_) fun _ _ hs => hs
  have done : ∀ {σ' : L2.St} {H' : Hp} {v : V} {u : Value}, Inv (cxOf (L2.CX P w) P w K mg base N qual scope f cdv A outer s H E) [] σ' H' s' → RelV v u → Q v H' → CE outer P w H s Q u s' := fun J rv q => ⟨_, _, J.os, J.bare, J.base, J.hok, rv, q⟩
  cases fl with
  | ret u => obtain ⟨v, σ', H', J, rv, q⟩ := hs; exact done J rv q
  | next => obtain ⟨σ', H', J, q⟩ := hs; exact done (v := V.non) (u := Value.none) J rfl q
  | brk => obtain ⟨_, _, _, q⟩ := hs; exact False.elim q
  | cont => obtain ⟨_, _, _, q⟩ := hs; exact False.elim q
/-- THE RULE: a def by its body's meaning -/
theorem fn_mean {k : Nat} {f : Addr} {name qual : Str} {params : Arguments} {body : List Stmt} {scope : Scope} {dV kV doc pm cdv ct oc : Value} {an od : Option Addr} {osl : Array (Option Value)} {N ps : List Str} {m : Sm}
    (lk : K.lookup f = some ⟨oc, od, .func (PySem.W.fnOf name qual params body scope dV kV doc pm an cdv ct), osl⟩) (hcd : PySem.W.codeIn K cdv qual = true) (S : FnScope N ps scope)
    (hbody : ∀ (A : Around) (outer : List Env) (s : Shared) (H : Hp) (E : XK), (A.deeper (envOfC qual scope s.heap.objs.size f cdv)).guards = some [] → Room k (A.deeper (envOfC qual scope s.heap.objs.size f cdv)) →
      PSs (cxOf (L2.CX P w) P w K mg base N qual scope f cdv A outer s H E) body (TSm ⟨K, mg⟩ (WofE E) m)) :
    FnG P w K mg base (k + 1) f (PySem.W.fnOf name qual params body scope dV kV doc pm an cdv ct) ps (spM ⟨K, mg⟩ ps.length (runF m N.length)) := by
  refine fn_ofG lk hcd S (fun vs H Q E h => h.1) fun A outer s H vs Q E hgd hr hsp => ⟨_, hbody A outer s H E hgd hr, ?_⟩
  obtain ⟨hn, mm, st, xs, sr, vr, af⟩ := hsp
  refine ⟨mm, startS N.length xs, st, er_start vr, sr, ?_⟩
  unfold runF at af
  cases q : m (startS N.length xs) st with
  | nx ρ st' =>
    rw [q] at af
    intro σ' H' m' e er' sr'
    obtain ⟨m2, e2, v2, s2⟩ := gc_ok (x := .non) sr sr' e VR.non
    exact af .non H' m2 e2 v2 s2
  | rt x st' =>
    rw [q] at af
    intro v H' m' e vr' sr'
    obtain ⟨m2, e2, v2, s2⟩ := gc_ok sr sr' e vr'
    exact af v H' m2 e2 v2 s2
  | ex c fs ρ st' =>
    rw [q] at af
    intro cls d σ' H' m' e er' sr' xr
    simp only [bodyR, gcR] at af
    split at af
    · rename_i k
      obtain ⟨C, h1, h2, h3⟩ := xr
      refine af cls d H' mm e.cut (SR.cut sr sr' e k.1) ⟨C, h1, h2, h3.imp id ?_⟩
      rintro ⟨dd, gs, h4, h5, h6⟩
      have := KVR.cut k.2.2 h6
      rw [← sr.len, pre_take e.pre] at this
      exact ⟨dd, gs, h4, h5, this⟩
    · exact af cls d H' m' e sr' xr
  | bk ρ st' => rw [q] at af; exact af.elim
  | ct ρ st' => rw [q] at af; exact af.elim
  | bad => rw [q] at af; exact af.elim
end

/-! ### calls -/
def eCall (f : Fun1) (l : El) : Ev := fun ρ st => (l ρ st).bind fun xs st => f xs st
def permL {α : Type} (ix : List Nat) (l : List α) : List α := ix.filterMap fun i => l[i]?
def eCallK (f : Fun1) (ix : List Nat) (l k : El) : Ev := fun ρ st => (l ρ st).bind fun xs st => (k ρ st).bind fun zs st => f (permL ix (xs ++ zs)) st
section
variable {X : Cx} {W : WX} {k n : Nat} {f : Addr} {fd : FuncData} {ps : List Str} {sp : Sp} {x : Str} {p pos : Pos} {e : Expr} {es : List Expr} {l : El} {mf : Fun1}
theorem run_fnG {pins : List (Addr × Obj)} {σ : L2.St} {H : Hp} {s : Shared} {Q : VK} {args : Args} {us : List Value} {vs : List V} {E : XK} (F : FnG X.prog X.w X.K X.mg X.base k f fd ps sp) (hg : X.A.guards = some []) (hr : Room k X.A) (hb : BindsTo s fd args (ps.zip us))
    (hx : PassesAt (L2.CX X.prog X.w) X σ E) (I : Inv X pins σ H s) (r : Vals vs us) (h : sp vs H Q E) : wpAny (model X.prog X.w) X.A (call (.ref f) args.pos args.kw) (EP X pins σ Q) X.xe s := by
  refine wpAny_call (codeAny_mono (F.run X.A X.stack s H args us vs Q E hg hr I.env0 hb r h) fun r s' hq => ?_)
  cases r with
  | error e => exact hx pins H s e s' I hq
  | ok fl =>
    cases fl with
    | ret u => exact I.after hq
    | next => exact False.elim hq
    | brk => exact False.elim hq
    | cont => exact False.elim hq
end

/-- how f's parameters are bound: ix the places of the parameters among the values as written (positional ones, then keywords ks) -/
structure BindsTo' (K : PySem.W.Frag) (fd : FuncData) (ps : List Str) (ks : List Str) (ix : List Nat) (n : Nat) : Prop where
  to : ∀ (s : Shared) (us ws : List Value), K.In s.heap → us.length = n → ws.length = ks.length → BindsTo s fd ⟨us, ks.zip ws⟩ (ps.zip (permL ix (us ++ ws)))
theorem vals_at {vs : List V} {us : List Value} (h : Vals vs us) (i : Nat) : (∃ v u, vs[i]? = some v ∧ us[i]? = some u ∧ RelV v u) ∨ (vs[i]? = none ∧ us[i]? = none) := by
  cases q : vs[i]? with
  | some v => obtain ⟨u, h1, h2⟩ := h.get q; exact .inl ⟨v, u, rfl, h1, h2⟩
  | none =>
    refine .inr ⟨rfl, ?_⟩
    rw [List.getElem?_eq_none_iff] at q ⊢
    rw [← h.length]; exact q
theorem permL_vals {vs : List V} {us : List Value} (h : Vals vs us) : ∀ ix : List Nat, Vals (permL ix vs) (permL ix us)
  | [] => .nil
  | i :: ix => by
    unfold permL
    have r := permL_vals h ix
    unfold permL at r
    rcases vals_at h i with ⟨v, u, h1, h2, h3⟩ | ⟨h1, h2⟩
    · rw [List.filterMap_cons_some h1, List.filterMap_cons_some h2]
      exact .cons h3 r
    · rw [List.filterMap_cons_none h1, List.filterMap_cons_none h2]
      exact r
theorem permL_vrs {K : PySem.W.Frag} {H : Hp} {m : List Addr} {xs : List Val} {vs : List V} (h : VRs K H m xs vs) : ∀ ix : List Nat, VRs K H m (permL ix xs) (permL ix vs)
  | [] => VRs.nil
  | i :: ix => by
    unfold permL
    have r := permL_vrs h ix
    unfold permL at r
    cases q : xs[i]? with
    | some x =>
      obtain ⟨v, h1, h2⟩ := h.get q
      rw [List.filterMap_cons_some q, List.filterMap_cons_some h1]
      exact VRs.cons h2 r
    | none =>
      have q2 : vs[i]? = none := by
        rw [List.getElem?_eq_none_iff] at q ⊢
        rw [h.length]; exact q
      rw [List.filterMap_cons_none q, List.filterMap_cons_none q2]
      exact r
theorem permL_len {α : Type} {l : List α} {n : Nat} (hn : l.length = n) : ∀ {ix : List Nat}, ix.all (fun i => decide (i < n)) = true → (permL ix l).length = ix.length
  | [], _ => rfl
  | i :: ix, h => by
    rw [List.all_cons, Bool.and_eq_true] at h
    have hi : i < l.length := by rw [hn]; exact of_decide_eq_true h.1
    have r := permL_len hn h.2
    unfold permL at r ⊢
    rw [List.filterMap_cons_some (List.getElem?_eq_getElem hi), List.length_cons, r, List.length_cons]
section
variable {X : Cx} {W : WX} {k n : Nat} {f : Addr} {fd : FuncData} {ps : List Str} {x : Str} {p pos : Pos} {e : Expr} {es : List Expr} {kws : List Keyword} {l lk : El} {mf : Fun1}
theorem af_callee {p : Pm} {σ : L2.St} {H : Hp} {m : List Addr} {Q : VK} {r : Res Val} (h : Af (RV p.K) p W σ H m Q r) : Af (RV p.K) p (WofE (WE W σ)) [] H m Q r := by
  cases r with
  | ok x st => exact h
  | ex c fs st => exact h
  | bad => exact h
theorem me_call (F : FnG X.prog X.w X.K X.mg X.base k f fd ps (spM (pmOf X) n mf)) (hgd : X.A.guards = some []) (hr : Room k X.A) (hg : Gl X x) (hm : X.mg x = some (.ref f)) (hk : PySem.W.keepIn X.K (.ref f) = true) (hb : Binds X.K fd ps [])
    (hx : ∀ σ, PassesAt (L2.CX X.prog X.w) X σ (WE W σ)) (hn : ps.length = n) (ha : PA X (e :: es) (TL (pmOf X) W l)) (hl : Many n l) (hdb : (x == ("__debug__" : Str)) = false := by decide)
    (he : starEach (e :: es) X.env = (false, eval e X.env) :: starEach es X.env := by rfl) (hpl : (backTo pos (starEach es X.env)).any (·.1) = false := by rfl) :
    PE X (.Call (.Name x p) (e :: es) [] pos) (TV (pmOf X) W (eCall mf l)) := by
  refine ⟨fun pins s σ H Q I h => ?_⟩
  obtain ⟨m, ρ, st, er, sr, af⟩ := h
  refine wpAny_Call_Name_kw (ld_glob I hg hm ?_ hdb)
  refine PySem.W.callWith_K (h₀ := X.base) I.ok.mod.kin hk (thn (ha.run pos pins s σ H _ I ⟨m, ρ, st, er, sr, Af.bind af⟩) fun us s1 ⟨vs, H1, I1, r, m1, st1, xs, e1, sr1, vr1, hx1, af1⟩ => ⟨I1.kIn, ?_⟩) he hpl
  have hlen : vs.length = n := by rw [← hl _ _ _ _ hx1]; exact vr1.length
  have b := hb s1 us I1.kIn (by rw [List.append_nil, ← r.length, hlen, hn])
  rw [List.append_nil] at b
  exact run_fnG (args := ⟨us, []⟩) F hgd hr b (hx σ) I1 r ⟨hlen, m1, st1, xs, sr1, vr1, af_callee af1⟩
theorem me_call0 (F : FnG X.prog X.w X.K X.mg X.base k f fd ps (spM (pmOf X) n mf)) (hgd : X.A.guards = some []) (hr : Room k X.A) (hg : Gl X x) (hm : X.mg x = some (.ref f)) (hk : PySem.W.keepIn X.K (.ref f) = true) (hb : Binds X.K fd ps [])
    (hx : ∀ σ, PassesAt (L2.CX X.prog X.w) X σ (WE W σ)) (hn : ps.length = n) (hl : Many n lNil) (hdb : (x == ("__debug__" : Str)) = false := by decide) : PE X (.Call (.Name x p) [] [] pos) (TV (pmOf X) W (eCall mf lNil)) := by
  refine ⟨fun pins s σ H Q I h => ?_⟩
  obtain ⟨m, ρ, st, er, sr, af⟩ := h
  refine wpAny_Call_Name_kw (ld_glob I hg hm ?_ hdb)
  have h0 : n = 0 := by rw [← hl ρ st [] st rfl]; rfl
  have b := hb s [] I.kIn (by rw [hn, h0]; rfl)
  rw [List.append_nil] at b
  exact PySem.W.callWith_K0 I.kIn hk (run_fnG (us := []) (args := ⟨[], []⟩) F hgd hr b (hx σ) I .nil ⟨by rw [h0]; rfl, m, st, [], sr, VRs.nil, af_callee af⟩)

theorem mk_nil : PK X [] (TL (pmOf X) W lNil) := ⟨fun pos pins s σ H Q I ⟨m, ρ, st, er, sr, af⟩ => pk_nil.run pos pins s σ H Q I (af [] H m (Ext.refl H m) VRs.nil sr)⟩
theorem mk_cons {nm : Option Str} {kpos : Pos} {a : Ev} (ha : PE X e (TV (pmOf X) W a)) (hr : PK X kws (TL (pmOf X) W l)) : PK X (⟨nm, e, kpos⟩ :: kws) (TL (pmOf X) W (lCons a l)) := ⟨fun pos pins s σ H Q I ⟨m, ρ, st, er, sr, af⟩ => by
  refine (pk_cons ha hr).run pos pins s σ H Q I ?_
  refine ⟨m, ρ, st, er, sr, (Af.bind af).imp ?_⟩
  rintro v H1 ⟨m1, st1, x, e1, sr1, vr1, hx, af1⟩
  refine ⟨m1, ρ, st1, er.mono e1, sr1, (Af.bind af1).imp ?_⟩
  rintro w H2 ⟨m2, st2, y, e2, sr2, vr2, hy, af2⟩
  exact af2 _ H2 m2 (Ext.refl _ _) (VRs.cons (vr1.mono e2) vr2) sr2⟩
/-- f(e, .., k = v, ..) -/
theorem me_callK {ks : List Str} {ix : List Nat} {n1 n2 : Nat} (F : FnG X.prog X.w X.K X.mg X.base k f fd ps (spM (pmOf X) n mf)) (hgd : X.A.guards = some []) (hr : Room k X.A) (hg : Gl X x) (hm : X.mg x = some (.ref f)) (hk : PySem.W.keepIn X.K (.ref f) = true)
    (hb : BindsTo' X.K fd ps ks ix n1) (hx : ∀ σ, PassesAt (L2.CX X.prog X.w) X σ (WE W σ)) (hn : ix.length = n) (hix : ix.all (fun i => decide (i < n1 + n2)) = true) (h2 : ks.length = n2)
    (ha : PA X (e :: es) (TL (pmOf X) W l)) (hl : Many n1 l) (hkw : PK X kws (TL (pmOf X) W lk)) (hlk : Many n2 lk)
    (hall : (backToKw pos (keywordEach kws X.env)).all (·.1.isSome) = true := by rfl) (hks : (backToKw pos (keywordEach kws X.env)).filterMap (·.1) = ks := by rfl)
    (hdb : (x == ("__debug__" : Str)) = false := by decide) (he : starEach (e :: es) X.env = (false, eval e X.env) :: starEach es X.env := by rfl)
    (hpl : ((backTo pos (starEach (e :: es) X.env)).any (·.1) || (backToKw pos (keywordEach kws X.env)).any (·.1.isNone)) = false := by rfl) :
    PE X (.Call (.Name x p) (e :: es) kws pos) (TV (pmOf X) W (eCallK mf ix l lk)) := by
  refine ⟨fun pins s σ H Q I h => ?_⟩
  obtain ⟨m, ρ, st, er, sr, af⟩ := h
  refine wpAny_Call_Name_kw (ld_glob I hg hm ?_ hdb)
  refine PySem.W.callWith_KW (h₀ := X.base) I.ok.mod.kin hk hall (thn (ha.run pos pins s σ H _ I ⟨m, ρ, st, er, sr, Af.bind af⟩) fun us s1 ⟨vs, H1, I1, r, m1, st1, xs, e1, sr1, vr1, hx1, af1⟩ => ?_) hpl he
  refine thn (hkw.run pos pins s1 σ H1 _ I1 ⟨m1, ρ, st1, er.mono e1, sr1, Af.bind af1⟩) fun ws s2 ⟨zs, H2, I2, rz, m2, st2, ys, e2, sr2, vr2, hx2, af2⟩ => ⟨I2.kIn, ?_⟩
  rw [hks]
  have l1 : xs.length = n1 := hl _ _ _ _ hx1
  have l2 : ys.length = n2 := hlk _ _ _ _ hx2
  have vv := vr1.mono e2
  have va : VRs X.K H2 m2 (xs ++ ys) (vs ++ zs) := vv.append vr2
  have rr : Vals (vs ++ zs) (us ++ ws) := r.append rz
  have b := hb.to s2 us ws I2.kIn (by rw [← r.length, vv.length, l1]) (by rw [← rz.length, vr2.length, l2, h2])
  refine run_fnG (args := ⟨us, ks.zip ws⟩) F hgd hr b (hx σ) I2 (permL_vals rr ix) ⟨?_, m2, st2, permL ix (xs ++ ys), sr2, permL_vrs va ix, af_callee af2⟩
  rw [(permL_vrs va ix).length, permL_len (n := n1 + n2) (by rw [List.length_append, l1, l2]) hix, hn]
/-- f(k = v, ..) -/
theorem me_callK0 {ks : List Str} {ix : List Nat} {n2 : Nat} (F : FnG X.prog X.w X.K X.mg X.base k f fd ps (spM (pmOf X) n mf)) (hgd : X.A.guards = some []) (hr : Room k X.A) (hg : Gl X x) (hm : X.mg x = some (.ref f)) (hk : PySem.W.keepIn X.K (.ref f) = true)
    (hb : BindsTo' X.K fd ps ks ix 0) (hx : ∀ σ, PassesAt (L2.CX X.prog X.w) X σ (WE W σ)) (hn : ix.length = n) (hix : ix.all (fun i => decide (i < 0 + n2)) = true) (h2 : ks.length = n2)
    (hkw : PK X kws (TL (pmOf X) W lk)) (hlk : Many n2 lk)
    (hall : (backToKw pos (keywordEach kws X.env)).all (·.1.isSome) = true := by rfl) (hks : (backToKw pos (keywordEach kws X.env)).filterMap (·.1) = ks := by rfl)
    (hdb : (x == ("__debug__" : Str)) = false := by decide)
    (hpl : ((backTo pos (starEach [] X.env)).any (·.1) || (backToKw pos (keywordEach kws X.env)).any (·.1.isNone)) = false := by rfl) :
    PE X (.Call (.Name x p) [] kws pos) (TV (pmOf X) W (eCallK mf ix lNil lk)) := by
  refine ⟨fun pins s σ H Q I h => ?_⟩
  obtain ⟨m, ρ, st, er, sr, af⟩ := h
  refine wpAny_Call_Name_kw (ld_glob I hg hm ?_ hdb)
  refine PySem.W.callWith_KW0 (h₀ := X.base) I.ok.mod.kin hk hall ?_ hpl
  refine thn (hkw.run pos pins s σ H _ I ⟨m, ρ, st, er, sr, Af.bind (f := fun zs st => mf (permL ix ([] ++ zs)) st) af⟩) fun ws s2 ⟨zs, H2, I2, rz, m2, st2, ys, e2, sr2, vr2, hx2, af2⟩ => ⟨I2.kIn, ?_⟩
  rw [hks]
  have l2 : ys.length = n2 := hlk _ _ _ _ hx2
  have b := hb.to s2 [] ws I2.kIn rfl (by rw [← rz.length, vr2.length, l2, h2])
  refine run_fnG (args := ⟨[] ++ [], ks.zip ws⟩) F hgd hr b (hx σ) I2 (permL_vals (by simpa using rz) ix) ⟨?_, m2, st2, permL ix ([] ++ ys), sr2, permL_vrs (by simpa using vr2) ix, af_callee af2⟩
  rw [(permL_vrs (show VRs X.K H2 m2 ([] ++ ys) zs by simpa using vr2) ix).length, permL_len (n := 0 + n2) (by simp [l2]) hix, hn]
end
end EV
namespace EV
open PySem PySem.Spec L2 PyProof.Rows

/-! ### defs by their places in the text -/
/-- a def that stands behind the top -/
def Has (K : PySem.W.Frag) (mg : Str → Option Value) (x : Str) (t : Stmt) (f : Addr) (fd : FuncData) : Prop := FunD K x x (defArgs t) (defBody t) (defScope t) [] [] f fd ∧ mg x = some (.ref f)
/-- .. with what it promises -/
def Dn (P : Program) (w : World) (K : PySem.W.Frag) (mg : Str → Option Value) (base : Heap) (k : Nat) (x : Str) (t : Stmt) (ps : List Str) (mf : Fun1) : Prop :=
  ∃ f fd, Has K mg x t f fd ∧ FnG P w K mg base k f fd ps (spM ⟨K, mg⟩ ps.length mf)
section
variable {P : Program} {w : World} {K : PySem.W.Frag} {mg : Str → Option Value} {base : Heap} {x : Str} {t : Stmt} {ps N : List Str} {m : Sm} {k : Nat}
theorem Dn.zero {f : Addr} {fd : FuncData} (h : Has K mg x t f fd) : Dn P w K mg base k x t ps (fun _ _ => .bad) :=
  ⟨f, fd, h, ⟨fun _ _ _ _ s => s.1, fun _ _ _ _ _ _ _ _ _ _ _ _ _ _ s => by obtain ⟨_, _, _, _, _, _, z⟩ := s; exact z.elim⟩⟩
theorem Dn.succ {f : Addr} {fd : FuncData} (h : Has K mg x t f fd) (S : FnScope N ps (defScope t))
    (hbody : ∀ (cdv : Value) (A : Around) (outer : List Env) (s : Shared) (H : Hp) (E : XK), (A.deeper (envOfC x (defScope t) s.heap.objs.size f cdv)).guards = some [] → Room k (A.deeper (envOfC x (defScope t) s.heap.objs.size f cdv)) → N.Nodup →
      (∀ σ, PassesAt (L2.CX P w) (cxOf (L2.CX P w) P w K mg base N x (defScope t) f cdv A outer s H E) σ (WE (WofE E) σ)) →
      PassesOwn (model P w) (A.deeper (envOfC x (defScope t) s.heap.objs.size f cdv)) (envOfC x (defScope t) s.heap.objs.size f cdv) (cxOf (L2.CX P w) P w K mg base N x (defScope t) f cdv A outer s H E).xe →
      PSs (cxOf (L2.CX P w) P w K mg base N x (defScope t) f cdv A outer s H E) (defBody t) (TSm ⟨K, mg⟩ (WofE E) m)) : Dn P w K mg base (k + 1) x t ps (runF m N.length) := by
  obtain ⟨oc, od, dV, kV, doc, pm, an, cdv, ct, osl, rfl, lk, hcd, _, _⟩ := h.1.ex
  exact ⟨f, _, h, fn_mean lk hcd S fun A outer s H E hg hr => hbody cdv A outer s H E hg hr S.nd
    (fun σ => passAt (X := cxOf (L2.CX P w) P w K mg base N x (defScope t) f cdv A outer s H E) (takes_of rfl rfl rfl rfl) σ) (passes_of (X := cxOf (L2.CX P w) P w K mg base N x (defScope t) f cdv A outer s H E) rfl)⟩
end
section
variable {X : Cx} {W : WX} {k : Nat} {t : Stmt} {ps : List Str} {x : Str} {p pos : Pos} {e : Expr} {es : List Expr} {kws : List Keyword} {l lk : El} {mf : Fun1} {n : Nat}
/-- a call by places -/
theorem me_callD (F : Dn X.prog X.w X.K X.mg X.base k x t ps mf) (hgd : X.A.guards = some []) (hr : Room k X.A) (hg : Gl X x) (hx : ∀ σ, PassesAt (L2.CX X.prog X.w) X σ (WE W σ)) (ha : PA X (e :: es) (TL (pmOf X) W l)) (hl : Many n l) (hn : ps.length = n)
    (hb : ∀ (kV doc pm : Value) (an : Option Addr) (cdv ct : Value) (us : List Value), us.length = ps.length → bindArgs (PySem.W.fnOf x x (defArgs t) (defBody t) (defScope t) .none kV doc pm an cdv ct) ⟨us, []⟩ = pure (ps.zip us))
    (hdb : (x == ("__debug__" : Str)) = false := by decide) (he : starEach (e :: es) X.env = (false, eval e X.env) :: starEach es X.env := by rfl) (hpl : (backTo pos (starEach es X.env)).any (·.1) = false := by rfl) :
    PE X (.Call (.Name x p) (e :: es) [] pos) (TV (pmOf X) W (eCall mf l)) := by
  obtain ⟨f, fd, ⟨D, hm⟩, F⟩ := F
  rw [hn] at F
  exact me_call F hgd hr hg hm D.kp (D.bindsN hb) hx hn ha hl hdb he hpl
theorem me_callDK {ks : List Str} {ix : List Nat} {n1 n2 : Nat} (F : Dn X.prog X.w X.K X.mg X.base k x t ps mf) (hgd : X.A.guards = some []) (hr : Room k X.A) (hg : Gl X x) (hx : ∀ σ, PassesAt (L2.CX X.prog X.w) X σ (WE W σ))
    (ha : PA X (e :: es) (TL (pmOf X) W l)) (hl : Many n1 l) (hkw : PK X kws (TL (pmOf X) W lk)) (hlk : Many n2 lk) (hix : ix.all (fun i => decide (i < n1 + n2)) = true) (h2 : ks.length = n2) (hn : ix.length = ps.length)
    (hb : ∀ (kV doc pm : Value) (an : Option Addr) (cdv ct : Value) (us ws : List Value), us.length = n1 → ws.length = ks.length → bindArgs (PySem.W.fnOf x x (defArgs t) (defBody t) (defScope t) .none kV doc pm an cdv ct) ⟨us, ks.zip ws⟩ = pure (ps.zip (permL ix (us ++ ws))))
    (hall : (backToKw pos (keywordEach kws X.env)).all (·.1.isSome) = true := by rfl) (hks : (backToKw pos (keywordEach kws X.env)).filterMap (·.1) = ks := by rfl)
    (hdb : (x == ("__debug__" : Str)) = false := by decide) (he : starEach (e :: es) X.env = (false, eval e X.env) :: starEach es X.env := by rfl)
    (hpl : ((backTo pos (starEach (e :: es) X.env)).any (·.1) || (backToKw pos (keywordEach kws X.env)).any (·.1.isNone)) = false := by rfl) :
    PE X (.Call (.Name x p) (e :: es) kws pos) (TV (pmOf X) W (eCallK mf ix l lk)) := by
  obtain ⟨f, fd, ⟨D, hm⟩, F⟩ := F
  refine me_callK F hgd hr hg hm D.kp ⟨fun s us ws _ l1 l2 => ?_⟩ hx hn hix h2 ha hl hkw hlk hall hks hdb he hpl
  obtain ⟨oc, od, dV, kV, doc, pm, an, cdv, ct, osl, rfl, _, _, hD, _⟩ := D.ex
  rcases hD with ⟨_, rfl⟩ | ⟨q, _⟩
  · exact .of_eq (hb kV doc pm an cdv ct us ws l1 l2)
  · exact absurd rfl q
theorem me_callDK0 {ks : List Str} {ix : List Nat} {n2 : Nat} (F : Dn X.prog X.w X.K X.mg X.base k x t ps mf) (hgd : X.A.guards = some []) (hr : Room k X.A) (hg : Gl X x) (hx : ∀ σ, PassesAt (L2.CX X.prog X.w) X σ (WE W σ))
    (hkw : PK X kws (TL (pmOf X) W lk)) (hlk : Many n2 lk) (hix : ix.all (fun i => decide (i < 0 + n2)) = true) (h2 : ks.length = n2) (hn : ix.length = ps.length)
    (hb : ∀ (kV doc pm : Value) (an : Option Addr) (cdv ct : Value) (ws : List Value), ws.length = ks.length → bindArgs (PySem.W.fnOf x x (defArgs t) (defBody t) (defScope t) .none kV doc pm an cdv ct) ⟨[], ks.zip ws⟩ = pure (ps.zip (permL ix ws)))
    (hall : (backToKw pos (keywordEach kws X.env)).all (·.1.isSome) = true := by rfl) (hks : (backToKw pos (keywordEach kws X.env)).filterMap (·.1) = ks := by rfl)
    (hdb : (x == ("__debug__" : Str)) = false := by decide)
    (hpl : ((backTo pos (starEach [] X.env)).any (·.1) || (backToKw pos (keywordEach kws X.env)).any (·.1.isNone)) = false := by rfl) :
    PE X (.Call (.Name x p) [] kws pos) (TV (pmOf X) W (eCallK mf ix lNil lk)) := by
  obtain ⟨f, fd, ⟨D, hm⟩, F⟩ := F
  refine me_callK0 F hgd hr hg hm D.kp ⟨fun s us ws _ l1 l2 => ?_⟩ hx hn hix h2 hkw hlk hall hks hdb hpl
  obtain ⟨oc, od, dV, kV, doc, pm, an, cdv, ct, osl, rfl, _, _, hD, _⟩ := D.ex
  rcases hD with ⟨_, rfl⟩ | ⟨q, _⟩
  · match us, l1 with
    | [], _ => exact .of_eq (hb kV doc pm an cdv ct ws l2)
  · exact absurd rfl q
end

/-! ### the end -/
/-- the script as a value -/
def IsScript (ns : List Int) (x : Val) (st : Store) : Prop := (x = .ref 0 ∧ st = [.rol (ns.map Val.int)]) ∨ (x = .kl ns ∧ st = [])
theorem law_callG {P : Program} {w : World} {K : PySem.W.Frag} {mg mb : Str → Option Value} {k : Nat} {fa a : Addr} {fd : FuncData} {x : Str} {mf : Fun1} {s1 : Shared} {us : List Value} {ns : List Int}
    (inK : K.In s1.heap) (ng : s1.heap.Ns mainGlobals mg) (nb : s1.heap.Ns builtinsNs mb) (bb : ∀ y : Str, y ≠ "__name__" → mb y = bootBuiltins y) (nolim : s1.heap.NoLimit) (nog : s1.gens = #[])
    (hobj : s1.heap.get? a = some { cls := .type "list", data := .seq us.toArray }) (hi : IntsAre us ns) (hl : ns.length ≤ sizeLine) (hr : Room k callerA) (hgd : callerA.guards = some [])
    (F : ∀ base : Heap, K.In base → base.Ns mainGlobals mg → FnG P w K mg base k fa fd [x] (spM ⟨K, mg⟩ 1 mf)) (hbind : ∀ (s : Shared) (u : Value), BindsTo s fd ⟨[u], []⟩ [(x, u)])
    (hlaw : ∀ y st, IsScript ns y st → ∃ st', mf [y] st = .ok (.bl true) st') :
    codeAny (model P w) callerA (.call (.ref fa) ⟨[.ref a], []⟩) (fun r s' => r = .ok (.ret (.bool true)) ∧ OldK s1.heap s'.heap ∧ s'.os = s1.os ∧ AllBare s'.gens) s1 := by
  have rv := vals_ints hi
  have lv := hi.length
  have main : ∀ (H : Hp) (m : List Addr) (y : Val) (st : Store), IsScript ns y st → VR K H m y (.ref a) → SR ⟨K, mg⟩ H m st → Only H → HOk P w H s1.heap → (∀ b, H b ≠ none → b = a) → (H a ≠ none → K.lookup a = none) →
      codeAny (model P w) callerA (.call (.ref fa) ⟨[.ref a], []⟩) (fun r s' => r = .ok (.ret (.bool true)) ∧ OldK s1.heap s'.heap ∧ s'.os = s1.os ∧ AllBare s'.gens) s1 := by
    intro H m y st hy hv hs hO hok hA hK
    have noA : ∀ {b : Addr} {o : Obj} {es : Array DictEntry} {ep : Nat}, s1.heap.get? b = some o → o.data = .dict es ep → H b = none := fun {b o es ep} e d => by
      cases q : H b with
      | none => rfl
      | some z =>
        have eb : b = a := hA b (by rw [q]; simp)
        rw [eb, hobj] at e
        cases e
        have d2 : Data.seq us.toArray _ = Data.dict es ep := d
        cases d2
    have nsOf : ∀ {b : Addr} {mm : Str → Option Value}, s1.heap.Ns b mm → (hidT s1.heap H).Ns b mm := fun {b mm} ⟨o, es, ep, e, d, r⟩ => ⟨o, es, ep, hidT_get e (noA e d), d, r⟩
    have inB : K.In (hidT s1.heap H) := fun b o e => hidT_get (inK b o e) (by
      cases q : H b with
      | none => rfl
      | some z =>
        have eb : b = a := hA b (by rw [q]; simp)
        subst eb
        rw [hK (by rw [q]; simp)] at e; cases e)
    have M : Mod K mg (hidT s1.heap H) := ⟨inB, nsOf ng, ⟨mb, nsOf nb, bb⟩, let ⟨mc, h1, h2⟩ := nolim; ⟨mc, nsOf h1, h2⟩⟩
    have e0 : Env0 P w K mg (hidT s1.heap H) callerA [] s1 H := ⟨rfl, M, fun b o e => of_hidT e, Nat.le_of_eq (hidT_size _ _), trivial, fun b hb => absurd (show b ∈ ([] : List Addr) from hb) (by simp), hok, .of_eq nog⟩
    obtain ⟨st', he⟩ := hlaw y st hy
    have sp : spM ⟨K, mg⟩ 1 mf [.ref a] H (fun v _ => v = .bl true) fun _ _ _ => False := by
      refine ⟨rfl, m, st, [y], hs, VRs.cons hv VRs.nil, ?_⟩
      rw [he]
      exact fun v H' m' e rv sr => VR.bl_eq rv
    refine codeAny_mono ((F _ inB (nsOf ng)).run callerA [] s1 H ⟨[.ref a], []⟩ [.ref a] [.ref a] _ _ hgd hr e0 (hbind s1 (.ref a)) (.cons rfl .nil) sp) fun r s' h => ?_
    cases r with
    | error e =>
      obtain ⟨_, _, _, _, _, _, _, _, _, _, _, _, z⟩ := h
      exact z.elim
    | ok fl =>
      cases fl with
      | next => exact False.elim h
      | brk => exact False.elim h
      | cont => exact False.elim h
      | ret u =>
        obtain ⟨v, H', os, bare, un, hok', rel, q⟩ := h
        have q2 : v = .bl true := q
        subst q2
        obtain rfl : u = Value.bool true := rel
        refine ⟨rfl, OldK.of_keep fun b o e => ?_, os, bare⟩
        cases q : H b with
        | none => exact un.keep b o e q (by intro z; exact absurd (show b ∈ ([] : List Addr) from z) (by simp)) (by simp)
        | some z =>
          rcases hO b with y1 | ⟨ob, xs, y1⟩
          · rw [q] at y1; cases y1
          · obtain ⟨e1, _⟩ := hok b _ y1
            obtain ⟨e2, _⟩ := hok' b _ (un.frzs b ob _ y1)
            rw [e] at e1; cases e1
            exact e2
  cases hk : K.lookup a with
  | some o =>
    have e := inK a o hk
    rw [hobj] at e
    cases e
    refine main (fun _ => none) [] (.kl ns) [] (.inr ⟨rfl, rfl⟩) ?_ ⟨rfl, by simp, fun r b c h => by simp at h⟩ (fun _ => .inl rfl) (fun b u z => by have z' : (none : Option HO) = some u := z; cases z') (fun b z => absurd rfl z) fun z => absurd rfl z
    unfold VR
    exact ⟨a, rfl, _, us.toArray, _, hk, rfl, rfl, rfl, by rw [List.size_toArray, lv]; exact hl, by simpa using rv⟩
  | none =>
    have ha : (fun b => if b = a then some (HO.frz { cls := .type "list", data := .seq us.toArray } (.lst (ns.map V.int))) else none : Hp) a = some (.frz { cls := .type "list", data := .seq us.toArray } (.lst (ns.map V.int))) := if_pos rfl
    refine main (fun b => if b = a then some (.frz { cls := .type "list", data := .seq us.toArray } (.lst (ns.map V.int))) else none) [a] (.ref 0) [.rol (ns.map Val.int)] (.inl ⟨rfl, rfl⟩) ?_ ⟨rfl, by simp, fun r b c h1 h2 => ?_⟩ (fun b => ?_) (fun b u z => ?_) (fun b z => ?_) fun _ => hk
    · unfold VR
      exact ⟨a, rfl, rfl⟩
    · match r, h1, h2 with
      | 0, h1, h2 =>
        cases h1; cases h2
        exact ⟨_, _, ha, vrs_ints ns⟩
    · by_cases hb : b = a
      · exact .inr ⟨_, _, if_pos hb⟩
      · exact .inl (if_neg hb)
    · by_cases hb : b = a
      · have z' := (if_pos hb).symm.trans z
        cases z'
        subst hb
        exact ⟨hobj, by rw [List.length_map]; exact hl, us, _, rv, hobj⟩
      · have z' := (if_neg hb).symm.trans z
        cases z'
    · by_cases hb : b = a
      · exact hb
      · exact absurd (if_neg hb) z
/-- a law's walk from its meaning -/
theorem walk_ofG {l : PySem.W.OpenLaw} {n k : Nat} {q : Program} {loose : List Str} {XP : (Str → Option Value) → Heap → Prop} {YP : World → Heap → Prop} {d : DefRec} {x : Str} {mf : Fun1}
    (hn : l.most = some n) (hn2 : n ≤ sizeLine) (hdf : d.params.defaults = []) (hr : Room k callerA) (hgd : callerA.guards = some [])
    (F : ∀ (w : World) (mg : Str → Option Value) (fa : Addr) (h : Heap), YP w h → h.Ns mainGlobals mg → mg d.name = some (.ref fa) →
      ∃ (K : PySem.W.Frag) (fd : FuncData), K.In h ∧ (∀ (s : Shared) (u : Value), BindsTo s fd ⟨[u], []⟩ [(x, u)]) ∧
        ∀ base : Heap, K.In base → base.Ns mainGlobals mg → FnG l.prog w K mg base k fa fd [x] (spM ⟨K, mg⟩ 1 mf))
    (hlaw : ∀ ns y st, IsScript ns y st → ∃ st', mf [y] st = .ok (.bl true) st') : PySem.W.WalkO q loose XP YP l.row.toRowW d [] (fun f vs => PySem.call f vs) := by
  refine Att.attach_call hn hdf fun w s0 s1 mg mb fa o pm cd doc a vs ns G Y ho hd hcd hmg hobj hints hlen hg => ?_
  obtain ⟨K, fd, inK, hb, hF⟩ := F w mg fa _ Y G.T.g hmg
  exact law_callG inK G.T.g G.T.b G.T.builtins G.T.nolimit hg hobj hints (Nat.le_trans hlen hn2) hr hgd hF hb fun y st h => hlaw ns y st h
theorem room_caller : Room 150 callerA := ⟨rfl, by decide, by decide⟩
theorem guards_caller : callerA.guards = some [] := rfl

/-! ### what bodies use -/
theorem ms_bad {X : Cx} {W : WX} {t : Stmt} : PS X t (TSm (pmOf X) W fun _ _ => .bad) := ⟨fun pins s σ H D I ⟨_, _, _, _, _, z⟩ => z.elim⟩
theorem me_bad {X : Cx} {W : WX} {e : Expr} : PE X e (TV (pmOf X) W fun _ _ => .bad) := ⟨fun pins s σ H Q I ⟨_, _, _, _, _, z⟩ => z.elim⟩
theorem pass_blk {X : Cx} (σ : L2.St) : PassesAt (L2.CX X.prog X.w) X σ (WE W0 σ) := fun _ _ _ _ _ _ h => by
  obtain ⟨_, _, _, _, _, _, _, _, _, _, _, _, z⟩ := h
  exact z.elim
theorem _root_.L2.Room.u70 {k : Nat} {A : Around} (r : Room k A) : A.units + 70 < cLine := by have := r.un; omega
theorem _root_.L2.Room.u64 {k : Nat} {A : Around} (r : Room k A) : A.units + 64 < cLine := by have := r.un; omega
theorem _root_.L2.Room.u1 {k : Nat} {A : Around} (r : Room k A) : A.units + 1 < cLine := by have := r.un; omega
theorem me_gint {X : Cx} {W : WX} {x : Str} {pos : Pos} {i : Int} (h : ∃ t, X.mg x = some (.int i t)) (hg : Gl X x) (hdb : (x == ("__debug__" : Str)) = false := by decide) : PE X (.Name x pos) (TV (pmOf X) W (eC (.int i))) := by
  obtain ⟨t, hm⟩ := h
  exact me_glob (v := .int i) hg hm ⟨t, rfl⟩ (fun _ _ _ => VR.int) hdb
theorem bo_len : bootBuiltins "len" = some (.builtin "len") := by first | rfl | decide +kernel
theorem bo_abs : bootBuiltins "abs" = some (.builtin "abs") := by first | rfl | decide +kernel
theorem bo_int : bootBuiltins "int" = some (.type "int") := by first | rfl | decide +kernel
theorem bo_tuple : bootBuiltins "tuple" = some (.type "tuple") := by first | rfl | decide +kernel
theorem bo_list : bootBuiltins "list" = some (.type "list") := by first | rfl | decide +kernel
theorem bo_str : bootBuiltins "str" = some (.type "str") := by first | rfl | decide +kernel
theorem bo_bool : bootBuiltins "bool" = some (.type "bool") := by first | rfl | decide +kernel
theorem bo_dict : bootBuiltins "dict" = some (.type "dict") := by first | rfl | decide +kernel
theorem bo_sum : bootBuiltins "sum" = some (.builtin "sum") := by first | rfl | decide +kernel
theorem bo_isinstance : bootBuiltins "isinstance" = some (.builtin "isinstance") := by first | rfl | decide +kernel
theorem bo_repr : bootBuiltins "repr" = some (.builtin "repr") := by first | rfl | decide +kernel
theorem Has.uniq {K : PySem.W.Frag} {mg : Str → Option Value} {x : Str} {t : Stmt} {f f' : Addr} {fd fd' : FuncData} (h : Has K mg x t f fd) (h' : Has K mg x t f' fd') : f = f' ∧ fd = fd' := by
  have e := h.2.symm.trans h'.2
  cases e
  obtain ⟨_, _, _, _, _, _, _, _, _, _, rfl, lk, _⟩ := h.1.ex
  obtain ⟨_, _, _, _, _, _, _, _, _, _, rfl, lk', _⟩ := h'.1.ex
  rw [lk] at lk'
  cases lk'
  exact ⟨rfl, rfl⟩

/-! ### three names at once -/
def sPar3 (i j k : Nat) (l : El) : Sm := fun ρ st => (l ρ st).thenS ρ fun vs st => match vs with
  | [u, v, w] => .nx (((ρ.set i (some u)).set j (some v)).set k (some w)) st
  | _ => .bad
theorem VRs.three {K : PySem.W.Frag} {H : Hp} {m : List Addr} {a b c : Val} {vs : List V} (h : VRs K H m [a, b, c] vs) : ∃ u v w, vs = [u, v, w] ∧ VR K H m a u ∧ VR K H m b v ∧ VR K H m c w := by
  unfold VRs at h
  obtain ⟨u, r, rfl, h1, h⟩ := h
  obtain ⟨v, w, rfl, h2, h3⟩ := VRs.two h
  exact ⟨u, v, w, rfl, h1, h2, h3⟩
theorem ms_par3 {X : Cx} {W : WX} {pos : Pos} {i j l : Nat} {x y z : Str} {a b c : Expr} {el : El} {px py pz pt : Pos} {kt k2 : Nat} {pt2 : Pos} (hc : X.calm = true) (hN : X.N.Nodup) (hi : X.N[i]? = some x) (hj : X.N[j]? = some y) (hl : X.N[l]? = some z) (hij : i ≠ j) (hil : i ≠ l) (hjl : j ≠ l)
    (hx : X.env.scope.names.lookup x = some .local) (hy : X.env.scope.names.lookup y = some .local) (hz : X.env.scope.names.lookup z = some .local) (ha : PA X [a, b, c] (TL (pmOf X) W el))
    (hw : swappedStores [.Tuple [.Name x px, .Name y py, .Name z pz] kt pt] (.Tuple [a, b, c] k2 pt2) X.env = pure (some [x, y, z])) (hs : swapsWithSole [.Tuple [.Name x px, .Name y py, .Name z pz] kt pt] (.Tuple [a, b, c] k2 pt2) pos.line X.env = pure false := by rfl) :
    PS X (.Assign [.Tuple [.Name x px, .Name y py, .Name z pz] kt pt] (.Tuple [a, b, c] k2 pt2) pos) (TSm (pmOf X) W (sPar3 i j l el)) := (ps_par3 hc hN hi hj hl hij hil hjl hx hy hz ha hw hs).imp fun D σ H ⟨m, ρ, st, er, sr, af⟩ => by
  refine ⟨m, ρ, st, er, sr, (AfS.thenS er af).imp ?_⟩
  rintro vs H1 ⟨m1, st1, xs, e1, sr1, vr1, hx, af1⟩
  split at af1
  · obtain ⟨u, v, w, rfl, h1, h2, h3⟩ := VRs.three vr1
    exact ⟨u, v, w, rfl, af1 _ H1 m1 (Ext.refl _ _) ((((er.mono e1).set h1).set h2).set h3) sr1⟩
  · exact af1.elim
end EV
namespace EV
open PySem PySem.Spec L2 PyProof.Rows

/-! ### for over a table: locked while it is walked -/
def keyV : Key → Val
  | .inl i => .int i
  | .inr x => .str x
/-- the locked cell, what is walked -/
def lockOf : Cell → Option (Cell × List Val)
  | .dK kvs => some (.fK kvs, kvs.map fun kv => keyV kv.1)
  | .dT kvs => some (.fT kvs, kvs.map fun kv => .tup (kv.1.map keyV))
  | _ => none
open Classical in
noncomputable def unlock (r : Nat) (c c' : Cell) : RS → RS
  | .nx ρ st => if st[r]? = some c' then .nx ρ (st.set r c) else .bad
  | .rt x st => if st[r]? = some c' then .rt x (st.set r c) else .bad
  | .bk ρ st => if st[r]? = some c' then .bk ρ (st.set r c) else .bad
  | .ct ρ st => if st[r]? = some c' then .ct ρ (st.set r c) else .bad
  | _ => .bad
theorem unlock_nx {r : Nat} {c c' : Cell} {ρ : Slots} {st : Store} : unlock r c c' (.nx ρ st) = .bad ∨ unlock r c c' (.nx ρ st) = .nx ρ (st.set r c) := by
  simp only [unlock]; split <;> simp
theorem unlock_rt {r : Nat} {c c' : Cell} {x : Val} {st : Store} : unlock r c c' (.rt x st) = .bad ∨ unlock r c c' (.rt x st) = .rt x (st.set r c) := by
  simp only [unlock]; split <;> simp
theorem unlock_bk {r : Nat} {c c' : Cell} {ρ : Slots} {st : Store} : unlock r c c' (.bk ρ st) = .bad ∨ unlock r c c' (.bk ρ st) = .bk ρ (st.set r c) := by
  simp only [unlock]; split <;> simp
theorem unlock_ct {r : Nat} {c c' : Cell} {ρ : Slots} {st : Store} : unlock r c c' (.ct ρ st) = .bad ∨ unlock r c c' (.ct ρ st) = .ct ρ (st.set r c) := by
  simp only [unlock]; split <;> simp
/-- the table that a names, as it stands -/
def tabOf (a : Ev) (ρ : Slots) (st : Store) : Option (Nat × Cell × Cell × List Val) := match a ρ st with
  | .ok (.ref r) _ => match st[r]? with
    | some c => (lockOf c).map fun q => (r, c, q.1, q.2)
    | none => none
  | _ => none
open Classical in
/-- for x in a: a names a table or is a sequence -/
noncomputable def sForA (a : Ev) (g : Tg) (b : Sm) : Sm := fun ρ st => match tabOf a ρ st with
  | some (r, c, c', xs) => if a ρ (st.set r c') = .ok (.ref r) (st.set r c') then unlock r c c' (forL (.frz r c' xs) g b xs ρ (st.set r c')) else .bad
  | none => sFor (iSeq a) g b ρ st
theorem keyV_rel {K : PySem.W.Frag} {H : Hp} {m : List Addr} (k : Key) : VR K H m (keyV k) (kV k) := by
  cases k with
  | inl i => exact VR.int
  | inr x => exact VR.str
theorem keyVs_rel {K : PySem.W.Frag} {H : Hp} {m : List Addr} : ∀ k : List Key, VRs K H m (k.map keyV) (k.map kV)
  | [] => VRs.nil
  | k :: ks => VRs.cons (keyV_rel k) (keyVs_rel ks)
theorem KVR.fst {κ : Type} {K : PySem.W.Frag} {H : Hp} {m : List Addr} {kvs : List (κ × Val)} {ws : List (κ × V)} (h : KVR K H m kvs ws) : ws.map (·.1) = kvs.map (·.1) := h.keys
theorem src_keys {p : Pm} {r : Nat} {d : Addr} {o : Obj} {kvs : List (Key × Val)} {ws : List (Key × V)} (hk : ws.map (·.1) = kvs.map (·.1)) :
    SrcOk p (Itk d o ws) (.frz r (.fK kvs) (kvs.map fun kv => keyV kv.1)) (fun H _ => H d = some (.frz o (.dK ws))) where
  mono := fun _ _ _ _ _ _ hf h => hf _ _ _ h
  go := fun i x H m st sr l hh hx => by
    have hx' : (kvs.map fun kv => keyV kv.1)[i]? = some x := hx
    rw [List.getElem?_map, Option.map_eq_some_iff] at hx'
    obtain ⟨⟨k, y⟩, h1, rfl⟩ := hx'
    have h2 : (ws.map (·.1))[i]? = some k := by rw [hk, List.getElem?_map, h1]; rfl
    rw [List.getElem?_map, Option.map_eq_some_iff] at h2
    obtain ⟨⟨k2, v⟩, h3, h4⟩ := h2
    have h4' : k2 = k := h4
    subst h4'
    refine ⟨⟨l, (List.getElem?_eq_some_iff.mp h3).1⟩, fun x' H' ⟨e, k3, v3, h5, h6⟩ => ?_⟩
    subst e
    rw [h3] at h5
    cases h5
    subst h6
    exact ⟨m, Ext.refl _ _, sr, keyV_rel _⟩
  stop := fun H m st sr l hh => by
    refine ⟨l, ?_⟩
    have := congrArg List.length hk
    simp only [List.length_map] at this
    show ws.length ≤ (kvs.map _).length
    rw [List.length_map, this]
    exact Nat.le_refl _
theorem src_keysT {p : Pm} {r : Nat} {d : Addr} {o : Obj} {kvs : List (List Key × Val)} {ws : List (List Key × V)} (hk : ws.map (·.1) = kvs.map (·.1)) :
    SrcOk p (Itkt d o ws) (.frz r (.fT kvs) (kvs.map fun kv => .tup (kv.1.map keyV))) (fun H _ => H d = some (.frz o (.dT ws))) where
  mono := fun _ _ _ _ _ _ hf h => hf _ _ _ h
  go := fun i x H m st sr l hh hx => by
    have hx' : (kvs.map fun kv => Val.tup (kv.1.map keyV))[i]? = some x := hx
    rw [List.getElem?_map, Option.map_eq_some_iff] at hx'
    obtain ⟨⟨k, y⟩, h1, rfl⟩ := hx'
    have h2 : (ws.map (·.1))[i]? = some k := by rw [hk, List.getElem?_map, h1]; rfl
    rw [List.getElem?_map, Option.map_eq_some_iff] at h2
    obtain ⟨⟨k2, v⟩, h3, h4⟩ := h2
    have h4' : k2 = k := h4
    subst h4'
    refine ⟨⟨l, (List.getElem?_eq_some_iff.mp h3).1⟩, fun x' H' ⟨e, k3, v3, q, h5, h6, h7⟩ => ?_⟩
    subst e
    rw [h3] at h5
    cases h5
    subst h6
    refine ⟨m, Ext.refl _ _, sr, ?_⟩
    unfold VR
    exact ⟨q, _, rfl, h7, keyVs_rel _⟩
  stop := fun H m st sr l hh => by
    refine ⟨l, ?_⟩
    have := congrArg List.length hk
    simp only [List.length_map] at this
    show ws.length ≤ (kvs.map _).length
    rw [List.length_map, this]
    exact Nat.le_refl _
/-- the ends while d is locked -/
def lockD (d : Addr) (od : Obj) (u : HO) (D : Ends) : Ends := ⟨fun σ' H' => H' d = some (.frz od u) ∧ D.nx σ' (upd H' d u), fun v H' => H' d = some (.frz od u) ∧ D.rt v (upd H' d u), fun σ' H' => H' d = some (.frz od u) ∧ D.bk σ' (upd H' d u), fun σ' H' => H' d = some (.frz od u) ∧ D.ct σ' (upd H' d u)⟩
section
variable {p : Pm} {W : WX} {D : Ends} {H : Hp} {m : List Addr} {st : Store} {r : Nat} {d : Addr} {od : Obj} {u : HO} {c c' : Cell}
/-- locked: the way back -/
theorem lock_back (S : SR p H m st) (hr : m[r]? = some d) (hu : H d = some u) (hm : Mut (some u)) (ht : ∀ xs, u ≠ .tup xs) (hc : ∀ H' m', Ext (upd H d (.frz od u)) H' m m' → CR p (upd H' d u) m' d c) {H' : Hp} {m' : List Addr} {st' : Store}
    (e : Ext (upd H d (.frz od u)) H' m m') (S' : SR p H' m' st') : H' d = some (.frz od u) ∧ Ext H (upd H' d u) m m' ∧ SR p (upd H' d u) m' (st'.set r c) := by
  have hd : H' d = some (.frz od u) := e.frz d od u upd_same
  have hmem : d ∈ m := List.mem_of_getElem? hr
  have nf : ∀ q x, H d ≠ some (.frz q x) := fun q x z => by rw [hu] at z; cases z; exact hm
  refine ⟨hd, ⟨e.pre, fun b h1 h2 => ?_, fun b o h1 h2 => ?_, fun b xs h1 => ?_, fun b q x h1 => ?_⟩, S'.write (pre_get e.pre hr) (hc H' m' e)⟩
  · have := e.new b h1 h2
    have hb : b ≠ d := fun z => h2 (by rw [z]; exact hmem)
    rwa [upd_ne hb] at this
  · have hb : b ≠ d := fun z => h2 (by rw [z]; exact hmem)
    rw [upd_ne hb]
    exact e.oth b o (by rw [upd_ne hb]; exact h1) h2
  · have hb : b ≠ d := fun z => by rw [z, hu] at h1; cases h1; exact ht xs rfl
    rw [upd_ne hb]
    exact e.tup b xs (by rw [upd_ne hb]; exact h1)
  · have hb : b ≠ d := fun z => nf q x (by rw [← z]; exact h1)
    rw [upd_ne hb]
    exact e.frz b q x (by rw [upd_ne hb]; exact h1)
theorem ER.unl {σ : L2.St} {ρ : Slots} (h : ER p H m σ ρ) {d : Addr} {u : HO} (nt : ∀ xs, H d ≠ some (.tup xs)) : ER p (upd H d u) m σ ρ := ⟨h.len, fun i x hx => let ⟨v, h1, h2⟩ := h.slot i x hx; ⟨v, h1, VR.mono0 (List.prefix_refl _) (tup_over nt) h2⟩⟩
theorem lock_ends (S : SR p H m st) (hr : m[r]? = some d) (hu : H d = some u) (hm : Mut (some u)) (ht : ∀ xs, u ≠ .tup xs) (hc : ∀ H' m', Ext (upd H d (.frz od u)) H' m m' → CR p (upd H' d u) m' d c) {R : RS}
    (af : AfS p W D H m (unlock r c c' R)) : AfS p W (lockD d od u D) (upd H d (.frz od u)) m R := by
  have nt : ∀ {H' : Hp}, H' d = some (.frz od u) → ∀ xs, H' d ≠ some (.tup xs) := fun h xs z => by rw [h] at z; cases z
  cases R with
  | nx ρ st1 =>
    intro σ' H' m' e er sr
    rcases unlock_nx (r := r) (c := c) (c' := c') (ρ := ρ) (st := st1) with hh | hh
    · rw [hh] at af; exact af.elim
    · rw [hh] at af
      obtain ⟨h1, h2, h3⟩ := lock_back S hr hu hm ht hc e sr
      exact ⟨h1, af σ' _ m' h2 (er.unl (nt h1)) h3⟩
  | rt x st1 =>
    intro v H' m' e vr sr
    rcases unlock_rt (r := r) (c := c) (c' := c') (x := x) (st := st1) with hh | hh
    · rw [hh] at af; exact af.elim
    · rw [hh] at af
      obtain ⟨h1, h2, h3⟩ := lock_back S hr hu hm ht hc e sr
      exact ⟨h1, af v _ m' h2 (VR.mono0 (List.prefix_refl _) (tup_over (nt h1)) vr) h3⟩
  | bk ρ st1 =>
    intro σ' H' m' e er sr
    rcases unlock_bk (r := r) (c := c) (c' := c') (ρ := ρ) (st := st1) with hh | hh
    · rw [hh] at af; exact af.elim
    · rw [hh] at af
      obtain ⟨h1, h2, h3⟩ := lock_back S hr hu hm ht hc e sr
      exact ⟨h1, af σ' _ m' h2 (er.unl (nt h1)) h3⟩
  | ct ρ st1 =>
    intro σ' H' m' e er sr
    rcases unlock_ct (r := r) (c := c) (c' := c') (ρ := ρ) (st := st1) with hh | hh
    · rw [hh] at af; exact af.elim
    · rw [hh] at af
      obtain ⟨h1, h2, h3⟩ := lock_back S hr hu hm ht hc e sr
      exact ⟨h1, af σ' _ m' h2 (er.unl (nt h1)) h3⟩
  | ex a b c d => exact af.elim
  | bad => exact af.elim
end
section
variable {X : Cx} {W : WX} {tg : Expr} {body : List Stmt} {pos : Pos} {g : Tg} {b : Sm} {a : Ev}
theorem ms_forA {iter : Expr} (hp : PassesOwn (model X.prog X.w) X.A X.env X.xe) (hc : X.calm = true) (hi : PE X iter (TV (pmOf X) W a)) (hg : PG X tg (TGt (pmOf X) g)) (hb : PSs X body (TSm (pmOf X) W b))
    (hs : ∀ x, foldedSetIterable iter X.env x = pure x := by intro _; rfl) : PS X (.For tg iter body [] pos) (TSm (pmOf X) W (sForA a g b)) :=
  ((ms_for hp hc hi hg hb hs).or (ps_lock (ps_for hp hc (pi_keys hi) hg hb hs))).imp fun D σ H ⟨m, ρ, st, er, sr, af⟩ => by
    unfold sForA at af
    split at af
    · rename_i q r c c' xs hq
      split at af
      · rename_i ha
        right
        unfold tabOf at hq
        split at hq
        · rename_i r0 st0 h0
          split at hq
          · rename_i c0 hc0
            rw [Option.map_eq_some_iff] at hq
            obtain ⟨⟨c1, xs1⟩, hl, hq⟩ := hq
            cases hq
            obtain ⟨d, hr, cr⟩ := sr.at_ hc0
            cases c with
            | dK kvs =>
              cases hl
              obtain ⟨ws, h1, h2⟩ := cr
              refine ⟨d, .dK ws, h1, trivial, fun od => ?_⟩
              have ex : ∀ H' m', Ext (upd H d (.frz od (.dK ws))) H' m m' → CR (pmOf X) (upd H' d (.dK ws)) m' d (.dK kvs) := fun H' m' e => by
                have hd : H' d = some (.frz od (.dK ws)) := e.frz d od _ upd_same
                refine ⟨ws, upd_same, KVR.mono0 (List.prefix_refl _) (tup_over fun xs z => by rw [hd] at z; cases z) (KVR.mono0 e.pre (fun b xs hb => e.tup b xs ?_) h2)⟩
                rw [upd_ne (fun z => by rw [z, h1] at hb; cases hb)]
                exact hb
              have nt : ∀ xs, H d ≠ some (.tup xs) := fun xs z => by rw [h1] at z; cases z
              have sr' : SR (pmOf X) (upd H d (.frz od (.dK ws))) m (st.set r (.fK kvs)) := sr.write hr ⟨ws, od, upd_same, KVR.mono0 (List.prefix_refl _) (tup_over nt) h2⟩
              refine ⟨m, ρ, st.set r (.fK kvs), er.unl nt, sr', ?_⟩
              rw [ha]
              intro v H' m' e vr s2
              obtain ⟨d2, e1, e2⟩ : ∃ d2, m'[r]? = some d2 ∧ v = .ref d2 := by unfold VR at vr; exact vr
              have e3 := pre_get e.pre hr
              rw [e3] at e1
              cases e1
              have hd : H' d = some (.frz od (.dK ws)) := e.frz d od _ upd_same
              refine ⟨d, od, e2, .inl ⟨ws, hd, ?_⟩⟩
              have af2 := lock_ends (od := od) sr hr h1 trivial (fun _ z => nomatch z) ex af
              exact for_src (src_keys h2.fst) ((er.unl nt).mono e) s2 hd (AfS.move af2 e)
            | dT kvs =>
              cases hl
              obtain ⟨ws, h1, h2⟩ := cr
              refine ⟨d, .dT ws, h1, trivial, fun od => ?_⟩
              have ex : ∀ H' m', Ext (upd H d (.frz od (.dT ws))) H' m m' → CR (pmOf X) (upd H' d (.dT ws)) m' d (.dT kvs) := fun H' m' e => by
                have hd : H' d = some (.frz od (.dT ws)) := e.frz d od _ upd_same
                refine ⟨ws, upd_same, KVR.mono0 (List.prefix_refl _) (tup_over fun xs z => by rw [hd] at z; cases z) (KVR.mono0 e.pre (fun b xs hb => e.tup b xs ?_) h2)⟩
                rw [upd_ne (fun z => by rw [z, h1] at hb; cases hb)]
                exact hb
              have nt : ∀ xs, H d ≠ some (.tup xs) := fun xs z => by rw [h1] at z; cases z
              have sr' : SR (pmOf X) (upd H d (.frz od (.dT ws))) m (st.set r (.fT kvs)) := sr.write hr ⟨ws, od, upd_same, KVR.mono0 (List.prefix_refl _) (tup_over nt) h2⟩
              refine ⟨m, ρ, st.set r (.fT kvs), er.unl nt, sr', ?_⟩
              rw [ha]
              intro v H' m' e vr s2
              obtain ⟨d2, e1, e2⟩ : ∃ d2, m'[r]? = some d2 ∧ v = .ref d2 := by unfold VR at vr; exact vr
              have e3 := pre_get e.pre hr
              rw [e3] at e1
              cases e1
              have hd : H' d = some (.frz od (.dT ws)) := e.frz d od _ upd_same
              refine ⟨d, od, e2, .inr ⟨ws, hd, ?_⟩⟩
              have af2 := lock_ends (od := od) sr hr h1 trivial (fun _ z => nomatch z) ex af
              exact for_src (src_keysT h2.fst) ((er.unl nt).mono e) s2 hd (AfS.move af2 e)
            | _ => cases hl
          · cases hq
        · cases hq
      · exact af.elim
    · exact .inl ⟨m, ρ, st, er, sr, af⟩
end
end EV
namespace EV
open PySem PySem.Spec L2

/-! ### meanings, step by step -/
section
variable {ρ : Slots} {st : Store} {i j k : Nat} {f1 : Op1} {f2 : Op2} {fn : OpN} {fm : Val → OpN} {f : Fun1} {a b o e : Ev} {l l2 : El} {t t2 : Et} {x y v : Val} {xs zs : List Val} {p q : Sm} {g : Tg} {gs : Tgs} {lo hi : Eo} {h1 h2 : Option Int} {it : Eg} {own ix : List Nat}
def kVar (r : Option (Option Val)) (st : Store) : Res Val := match r with
  | some (some v) => .ok v st
  | _ => .bad
@[simp] theorem st1  : eVar i ρ st = kVar (ρ[i]?) st := by
  unfold eVar kVar
  generalize (ρ[i]?) = r0
  rcases r0 with _ | r1
  all_goals first
    | rfl
    | (cases r1 <;> rfl)
    | (cases x1 <;> first | rfl | (rename_i z; cases z <;> rfl) | (rename_i z; generalize s1[z]? = cc; rcases cc with _ | cc <;> first | rfl | (cases cc <;> rfl)))
@[simp] theorem st2  : kVar (some (some v)) st = .ok v st := rfl
@[simp] theorem st3  : eC x ρ st = .ok x st := rfl
def kOp1 (r : Res Val) (f1 : Op1) : Res Val := r.bind fun x st => ofO (f1 x st)
@[simp] theorem st4  : eOp1 f1 a ρ st = kOp1 (a ρ st) f1 := by
  unfold eOp1 kOp1
  generalize (a ρ st) = r0
  rcases r0 with ⟨x1, s1⟩ | ⟨c1, fs1, s1⟩ | _
  all_goals first
    | rfl
    | (cases r1 <;> rfl)
    | (cases x1 <;> first | rfl | (rename_i z; cases z <;> rfl) | (rename_i z; generalize s1[z]? = cc; rcases cc with _ | cc <;> first | rfl | (cases cc <;> rfl)))
@[simp] theorem st5  : kOp1 (.ok x st) f1 = ofO (f1 x st) := rfl
def jOp2 (r : Res Val) (x : Val) (f2 : Op2) : Res Val := r.bind fun y st => ofO (f2 x y st)
@[simp] theorem st6  : jOp2 (.ok y st) x f2 = ofO (f2 x y st) := rfl
def kOp2 (r : Res Val) (f2 : Op2) (b : Ev) (ρ : Slots) : Res Val := r.bind fun x st => jOp2 (b ρ st) x f2
@[simp] theorem st7  : eOp2 f2 a b ρ st = kOp2 (a ρ st) f2 b ρ := by
  unfold eOp2 kOp2
  generalize (a ρ st) = r0
  rcases r0 with ⟨x1, s1⟩ | ⟨c1, fs1, s1⟩ | _
  all_goals first
    | rfl
    | (cases r1 <;> rfl)
    | (cases x1 <;> first | rfl | (rename_i z; cases z <;> rfl) | (rename_i z; generalize s1[z]? = cc; rcases cc with _ | cc <;> first | rfl | (cases cc <;> rfl)))
@[simp] theorem st8  : kOp2 (.ok x st) f2 b ρ = jOp2 (b ρ st) x f2 := rfl
@[simp] theorem st9  : lNil ρ st = .ok [] st := rfl
def jCons (r : Res (List Val)) (x : Val) : Res (List Val) := r.bind fun xs st => .ok (x :: xs) st
@[simp] theorem st10  : jCons (.ok xs st) x = .ok (x :: xs) st := rfl
def kCons (r : Res Val) (l : El) (ρ : Slots) : Res (List Val) := r.bind fun x st => jCons (l ρ st) x
@[simp] theorem st11  : lCons a l ρ st = kCons (a ρ st) l ρ := by
  unfold lCons kCons
  generalize (a ρ st) = r0
  rcases r0 with ⟨x1, s1⟩ | ⟨c1, fs1, s1⟩ | _
  all_goals first
    | rfl
    | (cases r1 <;> rfl)
    | (cases x1 <;> first | rfl | (rename_i z; cases z <;> rfl) | (rename_i z; generalize s1[z]? = cc; rcases cc with _ | cc <;> first | rfl | (cases cc <;> rfl)))
@[simp] theorem st12  : kCons (.ok x st) l ρ = jCons (l ρ st) x := rfl
def kOpN (r : Res (List Val)) (fn : OpN) : Res Val := r.bind fun xs st => ofO (fn xs st)
@[simp] theorem st13  : eOpN fn l ρ st = kOpN (l ρ st) fn := by
  unfold eOpN kOpN
  generalize (l ρ st) = r0
  rcases r0 with ⟨x1, s1⟩ | ⟨c1, fs1, s1⟩ | _
  all_goals first
    | rfl
    | (cases r1 <;> rfl)
    | (cases x1 <;> first | rfl | (rename_i z; cases z <;> rfl) | (rename_i z; generalize s1[z]? = cc; rcases cc with _ | cc <;> first | rfl | (cases cc <;> rfl)))
@[simp] theorem st14  : kOpN (.ok xs st) fn = ofO (fn xs st) := rfl
def kTup (r : Res (List Val)) : Res Val := r.bind fun xs st => .ok (.tup xs) st
@[simp] theorem st15  : eTup l ρ st = kTup (l ρ st) := by
  unfold eTup kTup
  generalize (l ρ st) = r0
  rcases r0 with ⟨x1, s1⟩ | ⟨c1, fs1, s1⟩ | _
  all_goals first
    | rfl
    | (cases r1 <;> rfl)
    | (cases x1 <;> first | rfl | (rename_i z; cases z <;> rfl) | (rename_i z; generalize s1[z]? = cc; rcases cc with _ | cc <;> first | rfl | (cases cc <;> rfl)))
@[simp] theorem st16  : kTup (.ok xs st) = .ok (.tup xs) st := rfl
def kLst (r : Res (List Val)) : Res Val := r.bind fun xs st => .ok (.ref st.length) (st ++ [.lst xs])
@[simp] theorem st17  : eLst l ρ st = kLst (l ρ st) := by
  unfold eLst kLst
  generalize (l ρ st) = r0
  rcases r0 with ⟨x1, s1⟩ | ⟨c1, fs1, s1⟩ | _
  all_goals first
    | rfl
    | (cases r1 <;> rfl)
    | (cases x1 <;> first | rfl | (rename_i z; cases z <;> rfl) | (rename_i z; generalize s1[z]? = cc; rcases cc with _ | cc <;> first | rfl | (cases cc <;> rfl)))
@[simp] theorem st18  : kLst (.ok xs st) = .ok (.ref st.length) (st ++ [.lst xs]) := rfl
@[simp] theorem st19  : eNewK ρ st = .ok (.ref st.length) (st ++ [.dK []]) := rfl
@[simp] theorem st20  : eNewT ρ st = .ok (.ref st.length) (st ++ [.dT []]) := rfl
def kTof (r : Res Val) : Res Bool := match r with
  | .ok (.bl b) st => .ok b st
  | .ex c fs st => .ex c fs st
  | _ => .bad
@[simp] theorem st21  : tOf a ρ st = kTof (a ρ st) := by
  unfold tOf kTof
  generalize (a ρ st) = r0
  rcases r0 with ⟨x1, s1⟩ | ⟨c1, fs1, s1⟩ | _
  all_goals first
    | rfl
    | (cases r1 <;> rfl)
    | (cases x1 <;> first | rfl | (rename_i z; cases z <;> rfl) | (rename_i z; generalize s1[z]? = cc; rcases cc with _ | cc <;> first | rfl | (cases cc <;> rfl)))
@[simp] theorem st22 {b : Bool} : kTof (.ok (.bl b) st) = .ok b st := rfl
def kTand (r : Res Bool) (t2 : Et) (ρ : Slots) : Res Bool := match r with
  | .ok true st => t2 ρ st
  | .ok false st => .ok false st
  | .ex c fs st => .ex c fs st
  | .bad => .bad
@[simp] theorem st23  : EV.tAnd t t2 ρ st = kTand (t ρ st) t2 ρ := by
  unfold EV.tAnd kTand
  generalize (t ρ st) = r0
  rcases r0 with ⟨x1, s1⟩ | ⟨c1, fs1, s1⟩ | _
  all_goals first
    | rfl
    | (cases r1 <;> rfl)
    | (cases x1 <;> first | rfl | (rename_i z; cases z <;> rfl) | (rename_i z; generalize s1[z]? = cc; rcases cc with _ | cc <;> first | rfl | (cases cc <;> rfl)))
@[simp] theorem st24  : kTand (.ok true st) t2 ρ = t2 ρ st := rfl
@[simp] theorem st25  : kTand (.ok false st) t2 ρ = .ok false st := rfl
def kTor (r : Res Bool) (t2 : Et) (ρ : Slots) : Res Bool := match r with
  | .ok true st => .ok true st
  | .ok false st => t2 ρ st
  | .ex c fs st => .ex c fs st
  | .bad => .bad
@[simp] theorem st26  : EV.tOr t t2 ρ st = kTor (t ρ st) t2 ρ := by
  unfold EV.tOr kTor
  generalize (t ρ st) = r0
  rcases r0 with ⟨x1, s1⟩ | ⟨c1, fs1, s1⟩ | _
  all_goals first
    | rfl
    | (cases r1 <;> rfl)
    | (cases x1 <;> first | rfl | (rename_i z; cases z <;> rfl) | (rename_i z; generalize s1[z]? = cc; rcases cc with _ | cc <;> first | rfl | (cases cc <;> rfl)))
@[simp] theorem st27  : kTor (.ok true st) t2 ρ = .ok true st := rfl
@[simp] theorem st28  : kTor (.ok false st) t2 ρ = t2 ρ st := rfl
def kTnot (r : Res Bool) : Res Bool := r.bind fun b st => .ok (!b) st
@[simp] theorem st29  : tNot t ρ st = kTnot (t ρ st) := by
  unfold tNot kTnot
  generalize (t ρ st) = r0
  rcases r0 with ⟨x1, s1⟩ | ⟨c1, fs1, s1⟩ | _
  all_goals first
    | rfl
    | (cases r1 <;> rfl)
    | (cases x1 <;> first | rfl | (rename_i z; cases z <;> rfl) | (rename_i z; generalize s1[z]? = cc; rcases cc with _ | cc <;> first | rfl | (cases cc <;> rfl)))
@[simp] theorem st30 {b : Bool} : kTnot (.ok b st) = .ok (!b) st := rfl
def kEand (r : Res Val) (b : Ev) (ρ : Slots) : Res Val := match r with
  | .ok (.bl true) st => b ρ st
  | .ok (.bl false) st => .ok (.bl false) st
  | .ex c fs st => .ex c fs st
  | _ => .bad
@[simp] theorem st31  : eAnd a b ρ st = kEand (a ρ st) b ρ := by
  unfold eAnd kEand
  generalize (a ρ st) = r0
  rcases r0 with ⟨x1, s1⟩ | ⟨c1, fs1, s1⟩ | _
  all_goals first
    | rfl
    | (cases r1 <;> rfl)
    | (cases x1 <;> first | rfl | (rename_i z; cases z <;> rfl) | (rename_i z; generalize s1[z]? = cc; rcases cc with _ | cc <;> first | rfl | (cases cc <;> rfl)))
@[simp] theorem st32  : kEand (.ok (.bl true) st) b ρ = b ρ st := rfl
@[simp] theorem st33  : kEand (.ok (.bl false) st) b ρ = .ok (.bl false) st := rfl
def kEor (r : Res Val) (b : Ev) (ρ : Slots) : Res Val := match r with
  | .ok (.bl true) st => .ok (.bl true) st
  | .ok (.bl false) st => b ρ st
  | .ex c fs st => .ex c fs st
  | _ => .bad
@[simp] theorem st34  : eOr a b ρ st = kEor (a ρ st) b ρ := by
  unfold eOr kEor
  generalize (a ρ st) = r0
  rcases r0 with ⟨x1, s1⟩ | ⟨c1, fs1, s1⟩ | _
  all_goals first
    | rfl
    | (cases r1 <;> rfl)
    | (cases x1 <;> first | rfl | (rename_i z; cases z <;> rfl) | (rename_i z; generalize s1[z]? = cc; rcases cc with _ | cc <;> first | rfl | (cases cc <;> rfl)))
@[simp] theorem st35  : kEor (.ok (.bl true) st) b ρ = .ok (.bl true) st := rfl
@[simp] theorem st36  : kEor (.ok (.bl false) st) b ρ = b ρ st := rfl
def kEnot (r : Res Val) : Res Val := match r with
  | .ok (.bl b) st => .ok (.bl !b) st
  | .ex c fs st => .ex c fs st
  | _ => .bad
@[simp] theorem st37  : eNot a ρ st = kEnot (a ρ st) := by
  unfold eNot kEnot
  generalize (a ρ st) = r0
  rcases r0 with ⟨x1, s1⟩ | ⟨c1, fs1, s1⟩ | _
  all_goals first
    | rfl
    | (cases r1 <;> rfl)
    | (cases x1 <;> first | rfl | (rename_i z; cases z <;> rfl) | (rename_i z; generalize s1[z]? = cc; rcases cc with _ | cc <;> first | rfl | (cases cc <;> rfl)))
@[simp] theorem st38 {b : Bool} : kEnot (.ok (.bl b) st) = .ok (.bl !b) st := rfl
def kEif (r : Res Bool) (a b : Ev) (ρ : Slots) : Res Val := match r with
  | .ok true st => a ρ st
  | .ok false st => b ρ st
  | .ex c fs st => .ex c fs st
  | .bad => .bad
@[simp] theorem st39  : eIf t a b ρ st = kEif (t ρ st) a b ρ := by
  unfold eIf kEif
  generalize (t ρ st) = r0
  rcases r0 with ⟨x1, s1⟩ | ⟨c1, fs1, s1⟩ | _
  all_goals first
    | rfl
    | (cases r1 <;> rfl)
    | (cases x1 <;> first | rfl | (rename_i z; cases z <;> rfl) | (rename_i z; generalize s1[z]? = cc; rcases cc with _ | cc <;> first | rfl | (cases cc <;> rfl)))
@[simp] theorem st40  : kEif (.ok true st) a b ρ = a ρ st := rfl
@[simp] theorem st41  : kEif (.ok false st) a b ρ = b ρ st := rfl
def kCall (r : Res (List Val)) (f : Fun1) : Res Val := r.bind fun xs st => f xs st
@[simp] theorem st42  : eCall f l ρ st = kCall (l ρ st) f := by
  unfold eCall kCall
  generalize (l ρ st) = r0
  rcases r0 with ⟨x1, s1⟩ | ⟨c1, fs1, s1⟩ | _
  all_goals first
    | rfl
    | (cases r1 <;> rfl)
    | (cases x1 <;> first | rfl | (rename_i z; cases z <;> rfl) | (rename_i z; generalize s1[z]? = cc; rcases cc with _ | cc <;> first | rfl | (cases cc <;> rfl)))
@[simp] theorem st43  : kCall (.ok xs st) f = f xs st := rfl
def jCallK (r : Res (List Val)) (xs : List Val) (f : Fun1) (ix : List Nat) : Res Val := r.bind fun zs st => f (permL ix (xs ++ zs)) st
@[simp] theorem st44  : jCallK (.ok zs st) xs f ix = f (permL ix (xs ++ zs)) st := rfl
def kCallK (r : Res (List Val)) (f : Fun1) (ix : List Nat) (l2 : El) (ρ : Slots) : Res Val := r.bind fun xs st => jCallK (l2 ρ st) xs f ix
@[simp] theorem st45  : eCallK f ix l l2 ρ st = kCallK (l ρ st) f ix l2 ρ := by
  unfold eCallK kCallK
  generalize (l ρ st) = r0
  rcases r0 with ⟨x1, s1⟩ | ⟨c1, fs1, s1⟩ | _
  all_goals first
    | rfl
    | (cases r1 <;> rfl)
    | (cases x1 <;> first | rfl | (rename_i z; cases z <;> rfl) | (rename_i z; generalize s1[z]? = cc; rcases cc with _ | cc <;> first | rfl | (cases cc <;> rfl)))
@[simp] theorem st46  : kCallK (.ok xs st) f ix l2 ρ = jCallK (l2 ρ st) xs f ix := rfl
def iMeth (r : Res (List Val)) (x : Val) (fm : Val → OpN) : Res Val := r.bind fun xs st => ofO (fm x xs st)
@[simp] theorem st47  : iMeth (.ok xs st) x fm = ofO (fm x xs st) := rfl
def jMeth (k : Bool) (x : Val) (st : Store) (fm : Val → OpN) (l : El) (ρ : Slots) : Res Val := if k = true then iMeth (l ρ st) x fm else .bad
@[simp] theorem jMeth_t : jMeth true x st fm l ρ = iMeth (l ρ st) x fm := rfl
def kMeth (r : Res Val) (fm : Val → OpN) (l : El) (ρ : Slots) : Res Val := r.bind fun x st => jMeth (isLst st x) x st fm l ρ
@[simp] theorem st48  : kMeth (.ok x st) fm l ρ = jMeth (isLst st x) x st fm l ρ := rfl
@[simp] theorem eMeth_k : eMeth fm a l ρ st = kMeth (a ρ st) fm l ρ := rfl
def kLstC (c : Option Cell) : Bool := match c with
  | some (.lst xs) => true
  | _ => false
@[simp] theorem st49  : kLstC (some (.lst xs)) = true := rfl
@[simp] theorem isLst_ref {r : Nat} : isLst st (.ref r) = kLstC st[r]? := by unfold isLst kLstC; rfl
@[simp] theorem st50  : oNo ρ st = .ok none st := rfl
def kSome (r : Res Val) : Res (Option Int) := match r with
  | .ok (.int i) st => .ok (some i) st
  | .ex c fs st => .ex c fs st
  | _ => .bad
@[simp] theorem st51  : oSome a ρ st = kSome (a ρ st) := by
  unfold oSome kSome
  generalize (a ρ st) = r0
  rcases r0 with ⟨x1, s1⟩ | ⟨c1, fs1, s1⟩ | _
  all_goals first
    | rfl
    | (cases r1 <;> rfl)
    | (cases x1 <;> first | rfl | (rename_i z; cases z <;> rfl) | (rename_i z; generalize s1[z]? = cc; rcases cc with _ | cc <;> first | rfl | (cases cc <;> rfl)))
@[simp] theorem st52 {i : Int} : kSome (.ok (.int i) st) = .ok (some i) st := rfl
def iSl (r : Res (Option Int)) (x : Val) (h1 : Option Int) : Res Val := r.bind fun h2 st => ofO (slOf x h1 h2 st)
@[simp] theorem st53  : iSl (.ok h2 st) x h1 = ofO (slOf x h1 h2 st) := rfl
def jSl (r : Res (Option Int)) (x : Val) (hi : Eo) (ρ : Slots) : Res Val := r.bind fun h1 st => iSl (hi ρ st) x h1
@[simp] theorem st54  : jSl (.ok h1 st) x hi ρ = iSl (hi ρ st) x h1 := rfl
def kSl (r : Res Val) (lo hi : Eo) (ρ : Slots) : Res Val := r.bind fun x st => jSl (lo ρ st) x hi ρ
@[simp] theorem st55  : eSl a lo hi ρ st = kSl (a ρ st) lo hi ρ := by
  unfold eSl kSl
  generalize (a ρ st) = r0
  rcases r0 with ⟨x1, s1⟩ | ⟨c1, fs1, s1⟩ | _
  all_goals first
    | rfl
    | (cases r1 <;> rfl)
    | (cases x1 <;> first | rfl | (rename_i z; cases z <;> rfl) | (rename_i z; generalize s1[z]? = cc; rcases cc with _ | cc <;> first | rfl | (cases cc <;> rfl)))
@[simp] theorem st56  : kSl (.ok x st) lo hi ρ = jSl (lo ρ st) x hi ρ := rfl
@[simp] theorem st57  : eDispL [] ρ st = .ok [] st := rfl
def jDc (r : Res (List (Key × Val))) (c : Key) (x : Val) : Res (List (Key × Val)) := r.bind fun kvs st => .ok ((c, x) :: kvs) st
@[simp] theorem st58 {kvs : List (Key × Val)} {c : Key} : jDc (.ok kvs st) c x = .ok ((c, x) :: kvs) st := rfl
def kDc (r : Res Val) (c : Key) (ds : List (Key × Ev)) (ρ : Slots) : Res (List (Key × Val)) := r.bind fun x st => jDc (eDispL ds ρ st) c x
@[simp] theorem st59 {c : Key} {ds : List (Key × Ev)} : eDispL ((c, e) :: ds) ρ st = kDc (e ρ st) c ds ρ := by
  unfold eDispL kDc
  generalize (e ρ st) = r0
  rcases r0 with ⟨x1, s1⟩ | ⟨c1, fs1, s1⟩ | _
  all_goals first
    | rfl
    | (cases r1 <;> rfl)
    | (cases x1 <;> first | rfl | (rename_i z; cases z <;> rfl) | (rename_i z; generalize s1[z]? = cc; rcases cc with _ | cc <;> first | rfl | (cases cc <;> rfl)))
@[simp] theorem st60 {c : Key} {ds : List (Key × Ev)} : kDc (.ok x st) c ds ρ = jDc (eDispL ds ρ st) c x := rfl
def kDisp (r : Res (List (Key × Val))) : Res Val := r.bind fun kvs st => .ok (.ref st.length) (st ++ [.dK (kvs.foldl (fun acc kv => dput acc kv.1 kv.2) [])])
@[simp] theorem st61 {ds : List (Key × Ev)} : eDisp ds ρ st = kDisp (eDispL ds ρ st) := by
  unfold eDisp kDisp
  generalize (eDispL ds ρ st) = r0
  rcases r0 with ⟨x1, s1⟩ | ⟨c1, fs1, s1⟩ | _
  all_goals first
    | rfl
    | (cases r1 <;> rfl)
    | (cases x1 <;> first | rfl | (rename_i z; cases z <;> rfl) | (rename_i z; generalize s1[z]? = cc; rcases cc with _ | cc <;> first | rfl | (cases cc <;> rfl)))
@[simp] theorem st62 {kvs : List (Key × Val)} : kDisp (.ok kvs st) = .ok (.ref st.length) (st ++ [.dK (kvs.foldl (fun acc kv => dput acc kv.1 kv.2) [])]) := rfl
@[simp] theorem st63  : sNop ρ st = .nx ρ st := rfl
def kSeq (r : RS) (q : Sm) : RS := match r with
  | .nx ρ st => q ρ st
  | r => r
@[simp] theorem sSeq_k : sSeq p q ρ st = kSeq (p ρ st) q := rfl
@[simp] theorem kSeq_nx : kSeq (.nx ρ st) q = q ρ st := rfl
@[simp] theorem kSeq_rt : kSeq (.rt v st) q = .rt v st := rfl
@[simp] theorem kSeq_bk : kSeq (.bk ρ st) q = .bk ρ st := rfl
@[simp] theorem kSeq_ct : kSeq (.ct ρ st) q = .ct ρ st := rfl
@[simp] theorem kSeq_ex {c : Str} {fs : List (Str × Val)} : kSeq (.ex c fs ρ st) q = .ex c fs ρ st := rfl
def kDrop (r : Res Val) (ρ : Slots) : RS := r.thenS ρ fun v st => .nx ρ st
@[simp] theorem st64  : sDrop a ρ st = kDrop (a ρ st) ρ := by
  unfold sDrop kDrop
  generalize (a ρ st) = r0
  rcases r0 with ⟨x1, s1⟩ | ⟨c1, fs1, s1⟩ | _
  all_goals first
    | rfl
    | (cases r1 <;> rfl)
    | (cases x1 <;> first | rfl | (rename_i z; cases z <;> rfl) | (rename_i z; generalize s1[z]? = cc; rcases cc with _ | cc <;> first | rfl | (cases cc <;> rfl)))
@[simp] theorem st65  : kDrop (.ok v st) ρ = .nx ρ st := rfl
def kRet (r : Res Val) (ρ : Slots) : RS := r.thenS ρ fun v st => .rt v st
@[simp] theorem st66  : sRet a ρ st = kRet (a ρ st) ρ := by
  unfold sRet kRet
  generalize (a ρ st) = r0
  rcases r0 with ⟨x1, s1⟩ | ⟨c1, fs1, s1⟩ | _
  all_goals first
    | rfl
    | (cases r1 <;> rfl)
    | (cases x1 <;> first | rfl | (rename_i z; cases z <;> rfl) | (rename_i z; generalize s1[z]? = cc; rcases cc with _ | cc <;> first | rfl | (cases cc <;> rfl)))
@[simp] theorem st67  : kRet (.ok v st) ρ = .rt v st := rfl
@[simp] theorem st68  : sRetN ρ st = .rt .non st := rfl
def kSif (r : Res Bool) (p q : Sm) (ρ : Slots) : RS := match r with
  | .ok true st => p ρ st
  | .ok false st => q ρ st
  | .ex c fs st => .ex c fs ρ st
  | .bad => .bad
@[simp] theorem st69  : sIf t p q ρ st = kSif (t ρ st) p q ρ := by
  unfold sIf kSif
  generalize (t ρ st) = r0
  rcases r0 with ⟨x1, s1⟩ | ⟨c1, fs1, s1⟩ | _
  all_goals first
    | rfl
    | (cases r1 <;> rfl)
    | (cases x1 <;> first | rfl | (rename_i z; cases z <;> rfl) | (rename_i z; generalize s1[z]? = cc; rcases cc with _ | cc <;> first | rfl | (cases cc <;> rfl)))
@[simp] theorem st70  : kSif (.ok true st) p q ρ = p ρ st := rfl
@[simp] theorem st71  : kSif (.ok false st) p q ρ = q ρ st := rfl
@[simp] theorem st72  : sBreak ρ st = .bk ρ st := rfl
@[simp] theorem st73  : sCont ρ st = .ct ρ st := rfl
@[simp] theorem st74  : gSlot i x ρ = if i < ρ.length then some (ρ.set i (some x)) else none := rfl
@[simp] theorem st75  : gsNil [] ρ = some ρ := rfl
def kGs (r : Option Slots) (gs : Tgs) (xs : List Val) : Option Slots := match r with
  | some ρ => gs xs ρ
  | none => none
@[simp] theorem gsCons_k : gsCons g gs (v :: xs) ρ = kGs (g v ρ) gs xs := by
  show (match g v ρ with
    | some ρ => gs xs ρ
    | none => none) = _
  cases g v ρ <;> rfl
@[simp] theorem kGs_some : kGs (some ρ) gs xs = gs xs ρ := rfl
@[simp] theorem st76  : gTupT gs (.tup xs) ρ = gs xs ρ := rfl
def jSet (r : Option Slots) (st : Store) : RS := match r with
  | some ρ => .nx ρ st
  | none => .bad
@[simp] theorem st77  : jSet (some ρ) st = .nx ρ st := rfl
def kSet (r : Res Val) (g : Tg) (ρ : Slots) : RS := r.thenS ρ fun v st => jSet (g v ρ) st
@[simp] theorem st78  : sSet a g ρ st = kSet (a ρ st) g ρ := by
  unfold sSet kSet
  generalize (a ρ st) = r0
  rcases r0 with ⟨x1, s1⟩ | ⟨c1, fs1, s1⟩ | _
  all_goals first
    | rfl
    | (cases r1 <;> rfl)
    | (cases x1 <;> first | rfl | (rename_i z; cases z <;> rfl) | (rename_i z; generalize s1[z]? = cc; rcases cc with _ | cc <;> first | rfl | (cases cc <;> rfl)))
@[simp] theorem st79  : kSet (.ok v st) g ρ = jSet (g v ρ) st := rfl
def kPar (r : Res (List Val)) (i j : Nat) (ρ : Slots) : RS := r.thenS ρ fun vs st => match vs with
  | [v, w] => .nx ((ρ.set i (some v)).set j (some w)) st
  | _ => .bad
@[simp] theorem sPar_k : sPar i j l ρ st = kPar (l ρ st) i j ρ := rfl
@[simp] theorem kPar_ok : kPar (.ok [v, x] st) i j ρ = .nx ((ρ.set i (some v)).set j (some x)) st := rfl
def kPar3 (r : Res (List Val)) (i j k : Nat) (ρ : Slots) : RS := r.thenS ρ fun vs st => match vs with
  | [u, v, w] => .nx (((ρ.set i (some u)).set j (some v)).set k (some w)) st
  | _ => .bad
@[simp] theorem sPar3_k : sPar3 i j k l ρ st = kPar3 (l ρ st) i j k ρ := rfl
@[simp] theorem kPar3_ok : kPar3 (.ok [v, x, y] st) i j k ρ = .nx (((ρ.set i (some v)).set j (some x)).set k (some y)) st := rfl
def hPut (r : Option Store) (ρ : Slots) : RS := match r with
  | some st => .nx ρ st
  | none => .bad
@[simp] theorem st80  : hPut (some st) ρ = .nx ρ st := rfl
def iPut (r : Res Val) (v x : Val) (ρ : Slots) : RS := r.thenS ρ fun y st => hPut (putIx x y v st) ρ
@[simp] theorem st81  : iPut (.ok y st) v x ρ = hPut (putIx x y v st) ρ := rfl
def jPut (r : Res Val) (v : Val) (b : Ev) (ρ : Slots) : RS := r.thenS ρ fun x st => iPut (b ρ st) v x ρ
@[simp] theorem st82  : jPut (.ok x st) v b ρ = iPut (b ρ st) v x ρ := rfl
def kPut (r : Res Val) (o b : Ev) (ρ : Slots) : RS := r.thenS ρ fun v st => jPut (o ρ st) v b ρ
@[simp] theorem st83  : sPut o b e ρ st = kPut (e ρ st) o b ρ := by
  unfold sPut kPut
  generalize (e ρ st) = r0
  rcases r0 with ⟨x1, s1⟩ | ⟨c1, fs1, s1⟩ | _
  all_goals first
    | rfl
    | (cases r1 <;> rfl)
    | (cases x1 <;> first | rfl | (rename_i z; cases z <;> rfl) | (rename_i z; generalize s1[z]? = cc; rcases cc with _ | cc <;> first | rfl | (cases cc <;> rfl)))
@[simp] theorem st84  : kPut (.ok v st) o b ρ = jPut (o ρ st) v b ρ := rfl
@[simp] theorem st85  : tTrue ρ st = .ok true st := rfl
noncomputable def kFor (r : Res Src) (g : Tg) (p : Sm) (ρ : Slots) : RS := r.thenS ρ fun s st => forL s g p s.items ρ st
@[simp] theorem sFor_k : sFor it g p ρ st = kFor (it ρ st) g p ρ := rfl
@[simp] theorem kFor_ok {s : Src} : kFor (.ok s st) g p ρ = forL s g p s.items ρ st := rfl
def jSeqC (c : Option Cell) (r : Nat) (st : Store) : Res Src := match c with
  | some (.lst xs) => .ok (.cell r xs) st
  | some (.rol xs) => .ok (.cell r xs) st
  | _ => .bad
@[simp] theorem st86 {r : Nat} : jSeqC (some (.lst xs)) r st = .ok (.cell r xs) st := rfl
@[simp] theorem st87 {r : Nat} : jSeqC (some (.rol xs)) r st = .ok (.cell r xs) st := rfl
def kISeq (r : Res Val) : Res Src := match r with
  | .ok (.tup xs) st => .ok (.vals xs) st
  | .ok (.str z) st => .ok (.vals (z.cps.toList.map fun c => .str ⟨#[c]⟩)) st
  | .ok (.ref r) st => jSeqC st[r]? r st
  | .ex c fs st => .ex c fs st
  | _ => .bad
@[simp] theorem st88  : iSeq a ρ st = kISeq (a ρ st) := by
  unfold iSeq kISeq
  generalize (a ρ st) = r0
  rcases r0 with ⟨x1, s1⟩ | ⟨c1, fs1, s1⟩ | _
  all_goals first
    | rfl
    | (cases r1 <;> rfl)
    | (cases x1 <;> first | rfl | (rename_i z; cases z <;> rfl) | (rename_i z; generalize s1[z]? = cc; rcases cc with _ | cc <;> first | rfl | (cases cc <;> rfl)))
@[simp] theorem st89  : kISeq (.ok (.tup xs) st) = .ok (.vals xs) st := rfl
@[simp] theorem st90 {z : Str} : kISeq (.ok (.str z) st) = .ok (.vals (z.cps.toList.map fun c => .str ⟨#[c]⟩)) st := rfl
@[simp] theorem st91 {r : Nat} : kISeq (.ok (.ref r) st) = jSeqC st[r]? r st := rfl
def kIEnum (r : Res Val) : Res Src := match r with
  | .ok (.tup xs) st => .ok (.vals (enumL 0 xs)) st
  | .ex c fs st => .ex c fs st
  | _ => .bad
@[simp] theorem st92  : EV.iEnum a ρ st = kIEnum (a ρ st) := by
  unfold EV.iEnum kIEnum
  generalize (a ρ st) = r0
  rcases r0 with ⟨x1, s1⟩ | ⟨c1, fs1, s1⟩ | _
  all_goals first
    | rfl
    | (cases r1 <;> rfl)
    | (cases x1 <;> first | rfl | (rename_i z; cases z <;> rfl) | (rename_i z; generalize s1[z]? = cc; rcases cc with _ | cc <;> first | rfl | (cases cc <;> rfl)))
@[simp] theorem st93  : kIEnum (.ok (.tup xs) st) = .ok (.vals (enumL 0 xs)) st := rfl
def kIRange (r : Res Val) : Res Src := match r with
  | .ok (.int i) st => if inRange i then .ok (.vals (rangeL 0 i.toNat)) st else .bad
  | .ex c fs st => .ex c fs st
  | _ => .bad
@[simp] theorem st94  : iRange1 a ρ st = kIRange (a ρ st) := by
  unfold iRange1 kIRange
  generalize (a ρ st) = r0
  rcases r0 with ⟨x1, s1⟩ | ⟨c1, fs1, s1⟩ | _
  all_goals first
    | rfl
    | (cases r1 <;> rfl)
    | (cases x1 <;> first | rfl | (rename_i z; cases z <;> rfl) | (rename_i z; generalize s1[z]? = cc; rcases cc with _ | cc <;> first | rfl | (cases cc <;> rfl)))
@[simp] theorem st95 {i : Int} : kIRange (.ok (.int i) st) = if inRange i then .ok (.vals (rangeL 0 i.toNat)) st else .bad := rfl
noncomputable def jComp (r : Res (List Val)) : Res Val := match r with
  | .ok ys st => if ys.length ≤ sizeLine then .ok (.ref st.length) (st ++ [.lst ys]) else .bad
  | _ => .bad
noncomputable def kComp (r : Res Src) (own : List Nat) (g : Tg) (t : Et) (e : Ev) (ρ : Slots) : Res Val := r.bind fun s st => jComp (compL s g t e (wipeS ρ own) s.items st)
@[simp] theorem eComp_k : eComp it own g t e ρ st = kComp (it ρ st) own g t e ρ := rfl
@[simp] theorem kComp_ok {s : Src} : kComp (.ok s st) own g t e ρ = jComp (compL s g t e (wipeS ρ own) s.items st) := rfl
theorem jComp_ok (h : xs.length ≤ sizeLine) : jComp (.ok xs st) = .ok (.ref st.length) (st ++ [.lst xs]) := if_pos h
@[simp] theorem runF_k {m : Sm} : runF m k xs st = gcR st (bodyR (m (startS k xs) st)) := rfl
@[simp] theorem bodyR_rt : bodyR (.rt v st) = .ok v st := rfl
@[simp] theorem bodyR_nx : bodyR (.nx ρ st) = .ok .non st := rfl
@[simp] theorem ofO_mk {α : Type} {z : α} : ofO (some (z, st)) = .ok z st := rfl
end
@[simp] theorem items_vals {xs : List Val} : (Src.vals xs).items = xs := rfl
@[simp] theorem items_cell {xs : List Val} {r : Nat} : (Src.cell r xs).items = xs := rfl
@[simp] theorem items_frz {xs : List Val} {r : Nat} {c : Cell} : (Src.frz r c xs).items = xs := rfl
@[simp] theorem wipeS_nil {ρ : Slots} : wipeS ρ [] = ρ := rfl
@[simp] theorem wipeS_cons {ρ : Slots} {v : Nat} {vs : List Nat} : wipeS ρ (v :: vs) = (wipeS ρ vs).set v none := rfl
@[simp] theorem startS_def {k : Nat} {xs : List Val} : startS k xs = xs.map some ++ List.replicate (k - xs.length) none := rfl
@[simp] theorem permL_def {ix : List Nat} {l : List Val} : permL ix l = ix.filterMap fun i => l[i]? := rfl
@[simp] theorem rep_0 {x : Option Val} : List.replicate 0 x = [] := rfl
@[simp] theorem rep_1 {x : Option Val} : List.replicate 1 x = [x] := rfl
@[simp] theorem rep_2 {x : Option Val} : List.replicate 2 x = [x, x] := rfl
@[simp] theorem rep_3 {x : Option Val} : List.replicate 3 x = [x, x, x] := rfl
@[simp] theorem rep_4 {x : Option Val} : List.replicate 4 x = [x, x, x, x] := rfl
@[simp] theorem rep_5 {x : Option Val} : List.replicate 5 x = [x, x, x, x, x] := rfl
@[simp] theorem rep_6 {x : Option Val} : List.replicate 6 x = [x, x, x, x, x, x] := rfl
@[simp] theorem rep_7 {x : Option Val} : List.replicate 7 x = [x, x, x, x, x, x, x] := rfl
@[simp] theorem rep_8 {x : Option Val} : List.replicate 8 x = [x, x, x, x, x, x, x, x] := rfl
@[simp] theorem rep_9 {x : Option Val} : List.replicate 9 x = [x, x, x, x, x, x, x, x, x] := rfl
@[simp] theorem rep_10 {x : Option Val} : List.replicate 10 x = [x, x, x, x, x, x, x, x, x, x] := rfl
@[simp] theorem rep_11 {x : Option Val} : List.replicate 11 x = [x, x, x, x, x, x, x, x, x, x, x] := rfl
@[simp] theorem rep_12 {x : Option Val} : List.replicate 12 x = [x, x, x, x, x, x, x, x, x, x, x, x] := rfl
@[simp] theorem rep_13 {x : Option Val} : List.replicate 13 x = [x, x, x, x, x, x, x, x, x, x, x, x, x] := rfl
@[simp] theorem rep_14 {x : Option Val} : List.replicate 14 x = [x, x, x, x, x, x, x, x, x, x, x, x, x, x] := rfl
@[simp] theorem rep_15 {x : Option Val} : List.replicate 15 x = [x, x, x, x, x, x, x, x, x, x, x, x, x, x, x] := rfl
@[simp] theorem rep_16 {x : Option Val} : List.replicate 16 x = [x, x, x, x, x, x, x, x, x, x, x, x, x, x, x, x] := rfl
@[simp] theorem rep_17 {x : Option Val} : List.replicate 17 x = [x, x, x, x, x, x, x, x, x, x, x, x, x, x, x, x, x] := rfl
@[simp] theorem rep_18 {x : Option Val} : List.replicate 18 x = [x, x, x, x, x, x, x, x, x, x, x, x, x, x, x, x, x, x] := rfl
@[simp] theorem rep_19 {x : Option Val} : List.replicate 19 x = [x, x, x, x, x, x, x, x, x, x, x, x, x, x, x, x, x, x, x] := rfl
@[simp] theorem rep_20 {x : Option Val} : List.replicate 20 x = [x, x, x, x, x, x, x, x, x, x, x, x, x, x, x, x, x, x, x, x] := rfl
@[simp] theorem rep_21 {x : Option Val} : List.replicate 21 x = [x, x, x, x, x, x, x, x, x, x, x, x, x, x, x, x, x, x, x, x, x] := rfl
@[simp] theorem rep_22 {x : Option Val} : List.replicate 22 x = [x, x, x, x, x, x, x, x, x, x, x, x, x, x, x, x, x, x, x, x, x, x] := rfl
@[simp] theorem rep_23 {x : Option Val} : List.replicate 23 x = [x, x, x, x, x, x, x, x, x, x, x, x, x, x, x, x, x, x, x, x, x, x, x] := rfl
@[simp] theorem rep_24 {x : Option Val} : List.replicate 24 x = [x, x, x, x, x, x, x, x, x, x, x, x, x, x, x, x, x, x, x, x, x, x, x, x] := rfl
@[simp] theorem rep_25 {x : Option Val} : List.replicate 25 x = [x, x, x, x, x, x, x, x, x, x, x, x, x, x, x, x, x, x, x, x, x, x, x, x, x] := rfl
@[simp] theorem rep_26 {x : Option Val} : List.replicate 26 x = [x, x, x, x, x, x, x, x, x, x, x, x, x, x, x, x, x, x, x, x, x, x, x, x, x, x] := rfl
@[simp] theorem rep_27 {x : Option Val} : List.replicate 27 x = [x, x, x, x, x, x, x, x, x, x, x, x, x, x, x, x, x, x, x, x, x, x, x, x, x, x, x] := rfl
@[simp] theorem rep_28 {x : Option Val} : List.replicate 28 x = [x, x, x, x, x, x, x, x, x, x, x, x, x, x, x, x, x, x, x, x, x, x, x, x, x, x, x, x] := rfl
@[simp] theorem rep_29 {x : Option Val} : List.replicate 29 x = [x, x, x, x, x, x, x, x, x, x, x, x, x, x, x, x, x, x, x, x, x, x, x, x, x, x, x, x, x] := rfl
@[simp] theorem rep_30 {x : Option Val} : List.replicate 30 x = [x, x, x, x, x, x, x, x, x, x, x, x, x, x, x, x, x, x, x, x, x, x, x, x, x, x, x, x, x, x] := rfl
theorem sForA_seq {a : Ev} {g : Tg} {p : Sm} {ρ : Slots} {st : Store} (h : tabOf a ρ st = none) : sForA a g p ρ st = sFor (iSeq a) g p ρ st := by
  unfold sForA; rw [h]

/-! ### operations at what is given -/
section
variable {ρ : Slots} {st : Store} {i j : Int} {r s : Nat} {xs ys : List Val} {x y v : Val} {a b : Str} {kvs : List (Key × Val)}
@[simp] theorem oAdd_int : oAdd (.int i) (.int j) st = some (.int (i + j), st) := rfl
theorem oAdd_str (h : a.length + b.length ≤ sizeLine) : oAdd (.str a) (.str b) st = some (.str (a ++ b), st) := if_pos h
theorem oAdd_tup (h : xs.length + ys.length ≤ sizeLine) : oAdd (.tup xs) (.tup ys) st = some (.tup (xs ++ ys), st) := if_pos h
theorem oAdd_lst (h1 : st[r]? = some (.lst xs)) (h2 : st[s]? = some (.lst ys)) (h : xs.length + ys.length ≤ sizeLine) : oAdd (.ref r) (.ref s) st = some (.ref st.length, st ++ [.lst (xs ++ ys)]) := by
  unfold oAdd
  simp only [h1, h2]
  exact if_pos h
@[simp] theorem oSub_int : oSub (.int i) (.int j) st = some (.int (i - j), st) := rfl
theorem oMul_int (h : mulOk i j) : oMul (.int i) (.int j) st = some (.int (i * j), st) := if_pos h
theorem oFloorDiv_int (h : 0 < j) (h2 : j.natAbs.log2 < 9000) : oFloorDiv (.int i) (.int j) st = some (.int (i / j), st) := if_pos ⟨h, h2⟩
theorem oMod_int (h : 0 < j) : oMod (.int i) (.int j) st = some (.int (i % j), st) := if_pos h
@[simp] theorem oNeg_int : oNeg (.int i) st = some (.int (-i), st) := rfl
@[simp] theorem oLt_int : oLt (.int i) (.int j) st = some (.bl (decide (i < j)), st) := rfl
@[simp] theorem oLe_int : oLe (.int i) (.int j) st = some (.bl (decide (i ≤ j)), st) := rfl
@[simp] theorem oGt_int : oGt (.int i) (.int j) st = some (.bl (decide (j < i)), st) := rfl
@[simp] theorem oGe_int : oGe (.int i) (.int j) st = some (.bl (decide (j ≤ i)), st) := rfl
theorem eqV1_int : eqV1 st (.int i) (.int j) = some (decide (i = j)) := by
  unfold eqV1
  simp only [flatVal]
  rw [if_pos (by rfl)]
  simp
theorem eqV1_str : eqV1 st (.str a) (.str b) = some (decide (a = b)) := by
  unfold eqV1
  simp only [flatVal]
  rw [if_pos (by rfl)]
  simp
@[simp] theorem oEq_int : oEq (.int i) (.int j) st = some (.bl (decide (i = j)), st) := by unfold oEq; rw [eqV1_int]; rfl
@[simp] theorem oNe_int : oNe (.int i) (.int j) st = some (.bl (!decide (i = j)), st) := by unfold oNe; rw [eqV1_int]; rfl
@[simp] theorem oEq_str : oEq (.str a) (.str b) st = some (.bl (decide (a = b)), st) := by unfold oEq; rw [eqV1_str]; rfl
@[simp] theorem oNe_str : oNe (.str a) (.str b) st = some (.bl (!decide (a = b)), st) := by unfold oNe; rw [eqV1_str]; rfl
theorem oEq_nil (h1 : st[r]? = some (.lst xs)) (h2 : st[s]? = some (.lst [])) : oEq (.ref r) (.ref s) st = some (.bl xs.isEmpty, st) := by
  unfold oEq eqV1
  simp only [flatVal, h1, h2]; rfl
theorem oNe_nil (h1 : st[r]? = some (.lst xs)) (h2 : st[s]? = some (.lst [])) : oNe (.ref r) (.ref s) st = some (.bl (!xs.isEmpty), st) := by
  unfold oNe eqV1
  simp only [flatVal, h1, h2]; rfl
@[simp] theorem oIsNone_non : oIsNone .non st = some (.bl true, st) := rfl
@[simp] theorem oIsNone_int : oIsNone (.int i) st = some (.bl false, st) := rfl
/-- what stands at a place, asked -/
def ixC (c : Option Cell) (y : Val) : Option Val := match c with
  | some (.lst xs) => (match y with
    | .int i => atI xs i
    | _ => none)
  | some (.rol xs) => (match y with
    | .int i => atI xs i
    | _ => none)
  | some (.dK kvs) => (match keyOf y with
    | some k => dget kvs k
    | none => none)
  | some (.fK kvs) => (match keyOf y with
    | some k => dget kvs k
    | none => none)
  | _ => none
def ixJ (r : Option Val) (st : Store) : Option (Val × Store) := match r with
  | some v => some (v, st)
  | none => none
@[simp] theorem ixJ_some : ixJ (some v) st = some (v, st) := rfl
@[simp] theorem oIx_tup : oIx (.tup xs) (.int i) st = ixJ (atI xs i) st := by
  unfold oIx ixJ; show (atI xs i).map _ = _; cases atI xs i <;> rfl
theorem oIx_lst (h : st[r]? = some (.lst xs)) : oIx (.ref r) (.int i) st = ixJ (atI xs i) st := by
  unfold oIx atIx ixJ; simp only [h]; cases atI xs i <;> rfl
theorem oIx_str (h : st[r]? = some (.dK kvs)) : oIx (.ref r) (.str a) st = ixJ (dget kvs (.inr a)) st := by
  unfold oIx atIx ixJ; simp only [h, keyOf]; cases dget kvs (.inr a) <;> rfl
theorem oIx_int (h : st[r]? = some (.dK kvs)) : oIx (.ref r) (.int i) st = ixJ (dget kvs (.inl i)) st := by
  unfold oIx atIx ixJ; simp only [h, keyOf]; cases dget kvs (.inl i) <;> rfl
theorem putIx_ref : putIx (.ref r) y v st = (match st[r]? with
  | some (.lst xs) => (match y with
    | .int i => (match ixN xs.length i with
      | some j => some (st.set r (.lst (xs.set j v)))
      | none => none)
    | _ => none)
  | some (.dK kvs) => (match keyOf y with
    | some k => if kvs.length < sizeLine then some (st.set r (.dK (dput kvs k v))) else none
    | none => none)
  | some (.dT kvs) => (match y with
    | .tup vs => (match keysOf vs with
      | some k => if kvs.length < sizeLine then some (st.set r (.dT (dput kvs k v))) else none
      | none => none)
    | _ => none)
  | _ => none) := rfl
theorem putIx_str (h : st[r]? = some (.dK kvs)) (hz : kvs.length < sizeLine) : putIx (.ref r) (.str a) v st = some (st.set r (.dK (dput kvs (.inr a) v))) := by
  unfold putIx; simp only [h, keyOf]; exact if_pos hz
@[simp] theorem nLen_tup : nLen [.tup xs] st = some (.int xs.length, st) := rfl
theorem nLen_lst (h : st[r]? = some (.lst xs)) : nLen [.ref r] st = some (.int xs.length, st) := by unfold nLen; simp only [h]
@[simp] theorem nAbs_int : nAbs [.int i] st = some (.int (if i < 0 then -i else i), st) := rfl
@[simp] theorem nInt_int : nInt [.int i] st = some (.int i, st) := rfl
@[simp] theorem nInt_bl {k : Bool} : nInt [.bl k] st = some (.int (if k then 1 else 0), st) := rfl
@[simp] theorem nTuple_tup : nTuple [.tup xs] st = some (.tup xs, st) := rfl
theorem nTuple_lst (h : st[r]? = some (.lst xs)) : nTuple [.ref r] st = some (.tup xs, st) := by unfold nTuple; simp only [h]
theorem nList_lst (h : st[r]? = some (.lst xs)) : nList [.ref r] st = some (.ref st.length, st ++ [.lst xs]) := by unfold nList; simp only [h]
@[simp] theorem nList_tup : nList [.tup xs] st = some (.ref st.length, st ++ [.lst xs]) := rfl
theorem mAppend_lst (h : st[r]? = some (.lst xs)) (hz : xs.length < sizeLine) : mAppend (.ref r) [v] st = some (.non, st.set r (.lst (xs ++ [v]))) := by unfold mAppend; simp only [h]; exact if_pos hz
theorem mExtend_tup (h : st[r]? = some (.lst xs)) (hz : xs.length + ys.length ≤ sizeLine) : mExtend (.ref r) [.tup ys] st = some (.non, st.set r (.lst (xs ++ ys))) := by unfold mExtend; simp only [h]; exact if_pos hz
theorem mExtend_lst (h : st[r]? = some (.lst xs)) (h2 : st[s]? = some (.lst ys)) (hz : xs.length + ys.length ≤ sizeLine) : mExtend (.ref r) [.ref s] st = some (.non, st.set r (.lst (xs ++ ys))) := by unfold mExtend; simp only [h, h2]; exact if_pos hz
theorem mPop_last (h : st[r]? = some (.lst (xs ++ [v]))) : mPop (.ref r) [] st = some (v, st.set r (.lst xs)) := by
  unfold mPop; simp only [h]; simp
theorem oRev_lst (h : st[r]? = some (.lst xs)) : oRev (.ref r) st = some (.ref st.length, st ++ [.lst xs.reverse]) := by unfold oRev; simp only [h]
end
/-! ### stores -/
section
variable {st t : Store} {c : Cell} {k r : Nat}
@[simp] theorem app_at0 : (st ++ t)[st.length]? = t[0]? := by rw [List.getElem?_append_right (Nat.le_refl _), Nat.sub_self]
@[simp] theorem app_at : (st ++ t)[st.length + k]? = t[k]? := by rw [List.getElem?_append_right (Nat.le_add_right _ _), Nat.add_sub_cancel_left]
@[simp] theorem app_set0 : (st ++ t).set st.length c = st ++ t.set 0 c := by rw [List.set_append_right _ _ (Nat.le_refl _), Nat.sub_self]
@[simp] theorem app_set : (st ++ t).set (st.length + k) c = st ++ t.set k c := by rw [List.set_append_right _ _ (Nat.le_add_right _ _), Nat.add_sub_cancel_left]
theorem app_old (h : st[r]? = some c) : (st ++ t)[r]? = some c := by
  rw [List.getElem?_append_left (List.getElem?_eq_some_iff.mp h).1]; exact h
theorem lt_of_at (h : st[r]? = some c) : r < st.length := (List.getElem?_eq_some_iff.mp h).1
end

/-! ### values without places -/
mutual
def Val.flat : Val → Bool
  | .tup xs => flatAll xs
  | .ref _ => false
  | .kl _ => false
  | _ => true
def flatAll : List Val → Bool
  | [] => true
  | x :: xs => x.flat && flatAll xs
end
mutual
theorem Val.flat_bel (n : Nat) : ∀ x : Val, x.flat = true → x.bel n = true
  | .tup xs, h => by unfold Val.bel; unfold Val.flat at h; exact flatAll_bel n xs h
  | .non, _ => rfl
  | .bl _, _ => rfl
  | .int _, _ => rfl
  | .str _, _ => rfl
  | .ty _, _ => rfl
  | .ref _, h => by unfold Val.flat at h; cases h
  | .kl _, h => by unfold Val.flat at h; cases h
theorem flatAll_bel (n : Nat) : ∀ xs : List Val, flatAll xs = true → belowAll n xs = true
  | [], _ => rfl
  | x :: xs, h => by
    unfold belowAll; unfold flatAll at h
    rw [Bool.and_eq_true] at h
    rw [Val.flat_bel n x h.1, flatAll_bel n xs h.2]; rfl
end
theorem flatAll_iff {xs : List Val} : flatAll xs = true ↔ ∀ x ∈ xs, x.flat = true := by
  induction xs with
  | nil => simp [flatAll]
  | cons x xs ih => rw [flatAll, Bool.and_eq_true, ih]; simp
@[simp] theorem flat_tup {xs : List Val} : (Val.tup xs).flat = flatAll xs := by rw [Val.flat]
@[simp] theorem flat_int {i : Int} : (Val.int i).flat = true := by rw [Val.flat] <;> simp
@[simp] theorem flat_str {i : Str} : (Val.str i).flat = true := by rw [Val.flat] <;> simp
@[simp] theorem flat_bl {i : Bool} : (Val.bl i).flat = true := by rw [Val.flat] <;> simp
@[simp] theorem flat_non : (Val.non).flat = true := by rw [Val.flat] <;> simp
@[simp] theorem flatAll_nil : flatAll [] = true := by rw [flatAll]
@[simp] theorem flatAll_cons {x : Val} {xs : List Val} : flatAll (x :: xs) = (x.flat && flatAll xs) := by rw [flatAll]
@[simp] theorem flatAll_app {xs ys : List Val} : flatAll (xs ++ ys) = (flatAll xs && flatAll ys) := by
  induction xs with
  | nil => simp
  | cons x xs ih => simp [ih, Bool.and_assoc]
theorem flatAll_ints (ns : List Int) : flatAll (ns.map Val.int) = true := by
  induction ns with
  | nil => simp
  | cons n ns ih => simp [ih]

/-! ### a def's end -/
theorem keeps_app (st t : Store) : Keeps st (st ++ t) := fun r hr => .inl (by rw [List.getElem?_append_left hr])
/-- nothing old is changed, the answer holds no place -/
theorem gcR_flat {st t : Store} {x : Val} (h : x.flat = true) : gcR st (.ok x (st ++ t)) = .ok x st := by
  have hg : gc st x (st ++ t) = (x, st) := by
    unfold gc
    rw [if_pos ⟨keeps_app st t, by simp⟩, if_pos (Val.flat_bel _ x h)]
    simp
  show Res.ok (gc st x (st ++ t)).1 (gc st x (st ++ t)).2 = _
  rw [hg]
theorem gcR_flat0 {st : Store} {x : Val} (h : x.flat = true) : gcR st (.ok x st) = .ok x st := by
  have := gcR_flat (st := st) (t := []) h
  rwa [List.append_nil] at this
theorem gc_lst {st st' : Store} {r : Nat} {ys : List Val} (hk : Keeps st st') (hl : st.length ≤ st'.length) (hr : st.length ≤ r) (hc : st'[r]? = some (.lst ys)) (hf : flatAll ys = true) :
    gcR st (.ok (.ref r) st') = .ok (.ref st.length) (st'.take st.length ++ [.lst ys]) := by
  have hb : (Val.ref r).bel st.length = false := by unfold Val.bel; exact decide_eq_false (by omega)
  have hfr : freshLst st st' (.ref r) = some ys := by
    unfold freshLst
    simp only
    rw [if_pos hr, hc]
    simp only
    rw [if_pos (flatAll_bel _ ys hf)]
  unfold gcR gc
  simp only
  rw [if_pos ⟨hk, hl⟩, if_neg (by rw [hb]; simp), hfr]
/-- a new list of flat things -/
theorem gcR_lst {st t : Store} {k : Nat} {ys : List Val} (hc : t[k]? = some (.lst ys)) (hf : flatAll ys = true) : gcR st (.ok (.ref (st.length + k)) (st ++ t)) = .ok (.ref st.length) (st ++ [.lst ys]) := by
  rw [gc_lst (keeps_app st t) (by simp) (Nat.le_add_right _ _) (by rw [app_at]; exact hc) hf]
  simp
theorem gcR_lst0 {st t : Store} {ys : List Val} (hf : flatAll ys = true) : gcR st (.ok (.ref st.length) (st ++ (.lst ys :: t))) = .ok (.ref st.length) (st ++ [.lst ys]) :=
  gcR_lst (k := 0) rfl hf
end EV

namespace EV
open PySem PySem.Spec L2
section
variable {st : Store} {u r : Nat} {kvs : List (Key × Val)} {xs : List Val} {v : Val} {a : Str} {c c' : Cell} {i : Int}
theorem set_at (h : u < st.length) : (st.set u c)[u]? = some c := by rw [List.getElem?_set_self h]
theorem set_old (h : st[r]? = some c) (n : r ≠ u) : (st.set u c')[r]? = some c := by rw [List.getElem?_set_ne (Ne.symm n)]; exact h
theorem oIx_set (h : u < st.length) : oIx (.ref u) (.str a) (st.set u (.dK kvs)) = ixJ (dget kvs (.inr a)) (st.set u (.dK kvs)) := oIx_str (set_at h)
theorem putIx_set (h : u < st.length) (hz : kvs.length < sizeLine) : putIx (.ref u) (.str a) v (st.set u (.dK kvs)) = some (st.set u (.dK (dput kvs (.inr a) v))) := by
  rw [putIx_str (set_at h) hz, List.set_set]
@[simp] theorem szl : sizeLine = 16777216 := sizeLine_eq
theorem sz16 {n : Nat} (h : n ≤ 16777216) : n ≤ sizeLine := by rw [szl]; exact h
theorem sz17 {n : Nat} (h : n < 16777216) : n < sizeLine := by rw [szl]; exact h
theorem small_of {i : Int} (h : 0 ≤ i) (h2 : i < 2 ^ 61) : small64 i := ⟨by omega, by omega⟩
end
end EV
namespace EV
open PySem PySem.Spec L2
section
variable {κ α : Type} [DecidableEq κ] {k k' : κ} {v w : α} {r : List (κ × α)}
@[simp] theorem dget_nil : dget ([] : List (κ × α)) k = none := rfl
@[simp] theorem dget_cons : dget ((k, v) :: r) k' = if k = k' then some v else dget r k' := by
  unfold dget
  by_cases h : k = k'
  · rw [if_pos h, List.find?_cons_of_pos (by simpa using h)]; rfl
  · rw [if_neg h, List.find?_cons_of_neg (by simpa using h)]
end
end EV
namespace EV
open PySem PySem.Spec L2
theorem oMul_r {i j : Int} {st : Store} (h : EV.small64 j) : oMul (.int i) (.int j) st = some (.int (i * j), st) := oMul_int (.inr (.inl h))
theorem oMul_l {i j : Int} {st : Store} (h : EV.small64 i) : oMul (.int i) (.int j) st = some (.int (i * j), st) := oMul_int (.inl h)
theorem sm1 : EV.small64 2862933555777941757 := (by unfold EV.small64; decide)
theorem sm2 : EV.small64 3037000493 := (by unfold EV.small64; decide)
theorem sm3 : EV.small64 362436069 := (by unfold EV.small64; decide)
theorem sm4 : EV.small64 2 := (by unfold EV.small64; decide)
theorem lg4 : (4194304 : Int).natAbs.log2 < 9000 := by decide +kernel
end EV
namespace EV
open PySem PySem.Spec L2
@[simp] theorem isEmpty_snoc {α : Type} {xs : List α} {x : α} : (xs ++ [x]).isEmpty = false := by cases xs <;> rfl
theorem mAppend_set {st : Store} {u : Nat} {xs : List Val} {v : Val} (h : u < st.length) (hz : xs.length < sizeLine) : mAppend (.ref u) [v] (st.set u (.lst xs)) = some (.non, st.set u (.lst (xs ++ [v]))) := by
  rw [mAppend_lst (set_at h) hz, List.set_set]
end EV
namespace EV
open PySem PySem.Spec L2

/-! ### loops -/
theorem whileN_mono {t : Et} {b : Sm} : ∀ {n m : Nat} {ρ : Slots} {st : Store}, n ≤ m → whileN t b n ρ st ≠ .bad → whileN t b m ρ st = whileN t b n ρ st
  | 0, _, _, _, _, h => absurd rfl h
  | n + 1, 0, _, _, h, _ => absurd h (by omega)
  | n + 1, m + 1, ρ, st, h, k => by
    unfold whileN at k ⊢
    cases e : t ρ st with
    | ok x s1 =>
      rw [e] at k
      cases x with
      | false => rfl
      | true =>
        simp only [Res.thenS_ok, if_true] at k ⊢
        cases e2 : b ρ s1 with
        | nx ρ2 s2 => rw [e2] at k; exact whileN_mono (by omega) k
        | ct ρ2 s2 => rw [e2] at k; exact whileN_mono (by omega) k
        | bk ρ2 s2 => rfl
        | rt v s2 => rfl
        | ex c fs ρ2 s2 => rfl
        | bad => rfl
    | ex c fs s1 => rfl
    | bad => rfl
theorem sWhile_of {t : Et} {b : Sm} {ρ : Slots} {st : Store} {n : Nat} {r : RS} (h : whileN t b n ρ st = r) (hr : r ≠ .bad) : sWhile t b ρ st = r := by
  have ex : ∃ n, whileN t b n ρ st ≠ .bad := ⟨n, by rw [h]; exact hr⟩
  unfold sWhile
  rw [dif_pos ex]
  have hc := Classical.choose_spec ex
  generalize Classical.choose ex = m at hc
  by_cases q : n ≤ m
  · rw [whileN_mono q (by rw [h]; exact hr), h]
  · rw [whileN_mono (show m ≤ n by omega) hc] at h
    exact h
theorem sWhile_ex {t : Et} {b : Sm} {ρ : Slots} {st : Store} {r : RS} (h : sWhile t b ρ st = r) (hr : r ≠ .bad) : ∃ n, whileN t b n ρ st = r := by
  unfold sWhile at h
  split at h
  · exact ⟨_, h⟩
  · exact absurd h.symm hr
theorem while_end {t : Et} {b : Sm} {ρ : Slots} {st st1 : Store} (h : t ρ st = .ok false st1) : sWhile t b ρ st = .nx ρ st1 :=
  sWhile_of (n := 1) (by unfold whileN; rw [h]; rfl) (by simp)
theorem while_go {t : Et} {b : Sm} {ρ ρ2 : Slots} {st st1 st2 : Store} {r : RS} (h : t ρ st = .ok true st1) (hb : b ρ st1 = .nx ρ2 st2) (k : sWhile t b ρ2 st2 = r) (hr : r ≠ .bad) : sWhile t b ρ st = r := by
  obtain ⟨n, hn⟩ := sWhile_ex k hr
  refine sWhile_of (n := n + 1) ?_ hr
  unfold whileN
  rw [h, Res.thenS_ok, if_pos rfl, hb]
  exact hn
/-- THE RULE of while -/
theorem while_rule {t : Et} {b : Sm} {P : Slots → Store → Prop} (Inv : Nat → Slots → Store → Prop)
    (step : ∀ n ρ st, Inv n ρ st → (∃ st1, t ρ st = .ok false st1 ∧ P ρ st1) ∨ ∃ st1 ρ2 st2 n', t ρ st = .ok true st1 ∧ b ρ st1 = .nx ρ2 st2 ∧ n' < n ∧ Inv n' ρ2 st2) :
    ∀ n ρ st, Inv n ρ st → ∃ ρ' st', sWhile t b ρ st = .nx ρ' st' ∧ P ρ' st' := by
  intro n
  induction n using Nat.strongRecOn with
  | _ n ih =>
    intro ρ st h
    rcases step n ρ st h with ⟨st1, e, p⟩ | ⟨st1, ρ2, st2, n', e1, e2, hn, h'⟩
    · exact ⟨ρ, st1, while_end e, p⟩
    · obtain ⟨ρ', st', e3, p⟩ := ih n' hn ρ2 st2 h'
      exact ⟨ρ', st', while_go e1 e2 e3 (by simp), p⟩
/-- THE RULE of for: s what is walked -/
theorem for_rule {s : Src} {g : Tg} {b : Sm} (Inv : Nat → Slots → Store → Prop) (xs : List Val) (hh : ∀ i ρ st, Inv i ρ st → s.here st)
    (step : ∀ i x ρ st, xs[i]? = some x → Inv i ρ st → ∃ ρ1 ρ2 st2, g x ρ = some ρ1 ∧ (b ρ1 st = .nx ρ2 st2 ∨ b ρ1 st = .ct ρ2 st2) ∧ Inv (i + 1) ρ2 st2) :
    ∀ ρ st, Inv 0 ρ st → ∃ ρ' st', forL s g b xs ρ st = .nx ρ' st' ∧ Inv xs.length ρ' st' := by
  have go : ∀ (ys : List Val) (i : Nat) (ρ : Slots) (st : Store), ys = xs.drop i → i ≤ xs.length → Inv i ρ st → ∃ ρ' st', forL s g b ys ρ st = .nx ρ' st' ∧ Inv xs.length ρ' st' := by
    intro ys
    induction ys with
    | nil =>
      intro i ρ st e hi h
      have hl : xs.length ≤ i := by
        have := congrArg List.length e
        simp at this
        omega
      have : i = xs.length := by omega
      subst this
      refine ⟨ρ, st, ?_, h⟩
      unfold forL
      rw [if_pos (hh _ _ _ h)]
    | cons y ys ih =>
      intro i ρ st e hi h
      have hx : xs[i]? = some y := by
        have : (xs.drop i)[0]? = some y := by rw [← e]; rfl
        simpa using this
      have hl := (List.getElem?_eq_some_iff.mp hx).1
      have ed : ys = xs.drop (i + 1) := by
        have : (xs.drop i).tail = ys := by rw [← e]; rfl
        rw [← this, List.tail_drop]
      obtain ⟨ρ1, ρ2, st2, e1, e2, h'⟩ := step i y ρ st hx h
      obtain ⟨ρ', st', e3, h3⟩ := ih (i + 1) ρ2 st2 ed (by omega) h'
      refine ⟨ρ', st', ?_, h3⟩
      unfold forL
      rw [if_pos (hh _ _ _ h), e1]
      rcases e2 with e2 | e2 <;> (simp only [e2]; exact e3)
  intro ρ st h
  exact go xs 0 ρ st (by simp) (Nat.zero_le _) h
/-- THE RULE of comprehensions -/
theorem comp_rule {s : Src} {g : Tg} {t : Et} {e : Ev} {ρ : Slots} (Inv : Nat → Store → List Val → Prop) (xs : List Val) (hh : ∀ i st acc, Inv i st acc → s.here st)
    (step : ∀ i x st acc, xs[i]? = some x → Inv i st acc → ∃ ρ1, g x ρ = some ρ1 ∧ ((∃ st1 y st2, t ρ1 st = .ok true st1 ∧ e ρ1 st1 = .ok y st2 ∧ Inv (i + 1) st2 (acc ++ [y])) ∨ ∃ st1, t ρ1 st = .ok false st1 ∧ Inv (i + 1) st1 acc)) :
    ∀ st, Inv 0 st [] → ∃ ys st', compL s g t e ρ xs st = .ok ys st' ∧ Inv xs.length st' ys := by
  have go : ∀ (zs : List Val) (i : Nat) (acc : List Val) (st : Store), zs = xs.drop i → i ≤ xs.length → Inv i st acc → ∃ ys st', compL s g t e ρ zs st = .ok ys st' ∧ Inv xs.length st' (acc ++ ys) := by
    intro zs
    induction zs with
    | nil =>
      intro i acc st ez hi h
      have hl : xs.length ≤ i := by
        have := congrArg List.length ez
        simp at this
        omega
      have : i = xs.length := by omega
      subst this
      refine ⟨[], st, ?_, by rw [List.append_nil]; exact h⟩
      unfold compL
      rw [if_pos (hh _ _ _ h)]
    | cons y zs ih =>
      intro i acc st ez hi h
      have hx : xs[i]? = some y := by
        have : (xs.drop i)[0]? = some y := by rw [← ez]; rfl
        simpa using this
      have hl := (List.getElem?_eq_some_iff.mp hx).1
      have ed : zs = xs.drop (i + 1) := by
        have : (xs.drop i).tail = zs := by rw [← ez]; rfl
        rw [← this, List.tail_drop]
      obtain ⟨ρ1, e1, h2⟩ := step i y st acc hx h
      rcases h2 with ⟨st1, z, st2, e2, e3, h'⟩ | ⟨st1, e2, h'⟩
      · obtain ⟨ys, st', e4, h4⟩ := ih (i + 1) (acc ++ [z]) st2 ed (by omega) h'
        refine ⟨z :: ys, st', ?_, by rw [List.append_assoc] at h4; exact h4⟩
        unfold compL
        rw [if_pos (hh _ _ _ h), e1]
        simp only [e2, e3, e4, Res.bind_ok]
      · obtain ⟨ys, st', e4, h4⟩ := ih (i + 1) acc st1 ed (by omega) h'
        refine ⟨ys, st', ?_, h4⟩
        unfold compL
        rw [if_pos (hh _ _ _ h), e1]
        simp only [e2, e4]
  intro st h
  obtain ⟨ys, st', e1, h1⟩ := go xs 0 [] st (by simp) (Nat.zero_le _) h
  exact ⟨ys, st', e1, by simpa using h1⟩
/-- one that changes nothing -/
theorem comp_pure {s : Src} {g : Tg} {t : Et} {e : Ev} {ρ : Slots} {st : Store} (F : Val → Option Val) (hh : s.here st) : ∀ (xs : List Val),
    (∀ x ∈ xs, ∃ ρ1, g x ρ = some ρ1 ∧ ((∃ y, t ρ1 st = .ok true st ∧ e ρ1 st = .ok y st ∧ F x = some y) ∨ (t ρ1 st = .ok false st ∧ F x = none))) → compL s g t e ρ xs st = .ok (xs.filterMap F) st
  | [], _ => by unfold compL; rw [if_pos hh]; rfl
  | x :: xs, h => by
    have ih := comp_pure (s := s) (g := g) (t := t) (e := e) (ρ := ρ) F hh xs fun y hy => h y (List.mem_cons_of_mem _ hy)
    obtain ⟨ρ1, e1, h2⟩ := h x (List.mem_cons_self ..)
    unfold compL
    rw [if_pos hh, e1]
    rcases h2 with ⟨y, e2, e3, e4⟩ | ⟨e2, e4⟩
    · simp only [e2, e3, ih, Res.bind_ok]
      rw [List.filterMap_cons_some e4]
    · simp only [e2, ih]
      rw [List.filterMap_cons_none e4]

/-! ### places in tuples -/
section
variable {α : Type} {a b c d e f : α} {r : List α}
@[simp] theorem atI_0 : L2.atI (a :: r) 0 = some a := atI_nat (j := 0) rfl
@[simp] theorem atI_1 : L2.atI (a :: b :: r) 1 = some b := atI_nat (j := 1) rfl
@[simp] theorem atI_2 : L2.atI (a :: b :: c :: r) 2 = some c := atI_nat (j := 2) rfl
@[simp] theorem atI_3 : L2.atI (a :: b :: c :: d :: r) 3 = some d := atI_nat (j := 3) rfl
@[simp] theorem atI_4 : L2.atI (a :: b :: c :: d :: e :: r) 4 = some e := atI_nat (j := 4) rfl
@[simp] theorem atI_5 : L2.atI (a :: b :: c :: d :: e :: f :: r) 5 = some f := atI_nat (j := 5) rfl
end
theorem seqIx_nat {j n : Nat} (h : j < n) : seqIndex? (j : Int) n = some j := by
  have h0 : ¬ ((j : Int) < 0) := by omega
  simp [seqIndex?, h0, h]
theorem mPop_at {st : Store} {r j : Nat} {xs : List Val} {x : Val} (h : st[r]? = some (.lst xs)) (hx : xs[j]? = some x) (hz : xs.length ≤ 16777216) : mPop (.ref r) [.int (j : Int)] st = some (x, st.set r (.lst (xs.eraseIdx j))) := by
  have hj := (List.getElem?_eq_some_iff.mp hx).1
  unfold mPop
  simp only [h]
  rw [if_pos (by omega), seqIx_nat hj]
  simp only [hx]
end EV
namespace EV
open PySem PySem.Spec L2

/-! ### the urn -/
structure IsUrn (u d : Nat) (st : Store) : Prop where
  ne : u ≠ d
  ex : ∃ (s t : Int) (ns : List Int), st[u]? = some (.dK [(.inr "deep", .ref d), (.inr "state", .int s), (.inr "turn", .int t)]) ∧ st[d]? = some (.lst (ns.map Val.int)) ∧ 0 ≤ s ∧ s < 2 ^ 61 ∧ ns.length ≤ 100
theorem IsUrn.u_lt {u d : Nat} {st : Store} (h : IsUrn u d st) : u < st.length := by obtain ⟨s, t, ns, h1, _⟩ := h.ex; exact lt_of_at h1
theorem IsUrn.d_lt {u d : Nat} {st : Store} (h : IsUrn u d st) : d < st.length := by obtain ⟨s, t, ns, _, h1, _⟩ := h.ex; exact lt_of_at h1
structure UR (u d : Nat) (st st' : Store) : Prop where
  len : st.length ≤ st'.length
  old : ∀ r, r < st.length → r ≠ u → r ≠ d → st'[r]? = st[r]?
  urn : IsUrn u d st'
theorem UR.refl {u d : Nat} {st : Store} (h : IsUrn u d st) : UR u d st st := ⟨Nat.le_refl _, fun _ _ _ _ => rfl, h⟩
theorem UR.trans {u d : Nat} {a b c : Store} (h : UR u d a b) (k : UR u d b c) : UR u d a c :=
  ⟨Nat.le_trans h.len k.len, fun r h1 h2 h3 => (k.old r (Nat.lt_of_lt_of_le h1 h.len) h2 h3).trans (h.old r h1 h2 h3), k.urn⟩
theorem IsUrn.app {u d : Nat} {st : Store} (h : IsUrn u d st) (t : Store) : IsUrn u d (st ++ t) := by
  obtain ⟨s, n, ns, h1, h2, h3⟩ := h.ex
  exact ⟨h.ne, s, n, ns, app_old h1, app_old h2, h3⟩
theorem UR.app {u d : Nat} {a b : Store} (h : UR u d a b) (t : Store) : UR u d a (b ++ t) :=
  ⟨by have := h.len; simp; omega, fun r h1 h2 h3 => by rw [List.getElem?_append_left (Nat.lt_of_lt_of_le h1 h.len)]; exact h.old r h1 h2 h3, h.urn.app t⟩
theorem UR.app0 {u d : Nat} {a : Store} (h : IsUrn u d a) (t : Store) : UR u d a (a ++ t) := (UR.refl h).app t
/-- what stood above stays too -/
theorem UR.of_app {u d : Nat} {a t b : Store} (hu : IsUrn u d a) (h : UR u d (a ++ t) b) : UR u d a b := (UR.app0 hu t).trans h
theorem UR.at_ {u d r : Nat} {a b : Store} {c : Cell} (h : UR u d a b) (hc : a[r]? = some c) (n1 : r ≠ u) (n2 : r ≠ d) : b[r]? = some c := by
  rw [h.old r (lt_of_at hc) n1 n2]; exact hc
theorem IsUrn.take {u d n : Nat} {st : Store} (h : IsUrn u d st) (h1 : u < n) (h2 : d < n) : IsUrn u d (st.take n) := by
  obtain ⟨s, t, ns, e1, e2, e3⟩ := h.ex
  exact ⟨h.ne, s, t, ns, by rw [List.getElem?_take_of_lt h1]; exact e1, by rw [List.getElem?_take_of_lt h2]; exact e2, e3⟩
theorem UR.keeps {u d : Nat} {st st' : Store} (h0 : IsUrn u d st) (h : UR u d st st') : Keeps st st' := fun r hr => by
  obtain ⟨s, t, ns, e1, e2, e3⟩ := h.urn.ex
  by_cases hu : r = u
  · refine .inr ⟨_, by rw [hu]; exact e1, ?_⟩
    have := h0.d_lt
    simp [Cell.bel, belowK, Val.bel, this]
  · by_cases hd : r = d
    · refine .inr ⟨_, by rw [hd]; exact e2, ?_⟩
      exact flatAll_bel _ _ (flatAll_ints ns)
    · exact .inl (h.old r hr hu hd)
theorem UR.cut {u d : Nat} {st st' : Store} (h0 : IsUrn u d st) (h : UR u d st st') : UR u d st (st'.take st.length) :=
  ⟨by rw [List.length_take]; have := h.len; omega, fun r h1 h2 h3 => by rw [List.getElem?_take_of_lt h1]; exact h.old r h1 h2 h3, h.urn.take h0.u_lt h0.d_lt⟩
/-- what a draw leaves -/
structure URs (u d : Nat) (st st' : Store) : Prop extends UR u d st st' where
  same : st'.length = st.length
theorem URs.refl {u d : Nat} {st : Store} (h : IsUrn u d st) : URs u d st st := ⟨UR.refl h, rfl⟩
theorem URs.trans {u d : Nat} {a b c : Store} (h : URs u d a b) (k : URs u d b c) : URs u d a c := ⟨h.toUR.trans k.toUR, k.same.trans h.same⟩
theorem gcR_urn {u d : Nat} {st st' : Store} {x : Val} (h0 : IsUrn u d st) (h : UR u d st st') (hf : x.flat = true) : gcR st (.ok x st') = .ok x (st'.take st.length) ∧ URs u d st (st'.take st.length) := by
  have hg : gc st x st' = (x, st'.take st.length) := by
    unfold gc
    rw [if_pos ⟨h.keeps h0, h.len⟩, if_pos (Val.flat_bel _ x hf)]
  refine ⟨?_, h.cut h0, by rw [List.length_take]; have := h.len; omega⟩
  show Res.ok (gc st x st').1 (gc st x st').2 = _
  rw [hg]
theorem gcR_urnL {u d r : Nat} {st st' : Store} {ys : List Val} (h0 : IsUrn u d st) (h : UR u d st st') (hr : st.length ≤ r) (hc : st'[r]? = some (.lst ys)) (hf : flatAll ys = true) :
    ∃ s2, gcR st (.ok (.ref r) st') = .ok (.ref st.length) (s2 ++ [.lst ys]) ∧ URs u d st s2 := by
  refine ⟨st'.take st.length, gc_lst (h.keeps h0) h.len hr hc hf, h.cut h0, by rw [List.length_take]; have := h.len; omega⟩
/-- the same with the answer told -/
theorem gcU {u d : Nat} {st : Store} {R : Res Val} (h0 : IsUrn u d st) {Pr : Val → Prop} (h : ∃ x st', R = .ok x st' ∧ UR u d st st' ∧ x.flat = true ∧ Pr x) : ∃ x st', gcR st R = .ok x st' ∧ URs u d st st' ∧ Pr x := by
  obtain ⟨x, st', rfl, h1, h2, h3⟩ := h
  obtain ⟨e1, e2⟩ := gcR_urn h0 h1 h2
  exact ⟨x, _, e1, e2, h3⟩

/-! ### draws -/
def TakeOk (f : Fun1) : Prop := ∀ (u d : Nat) (st : Store) (m : Int), IsUrn u d st → m < 2 ^ 60 → ∃ k st', f [.ref u, .int m] st = .ok (.int k) st' ∧ URs u d st st' ∧ 0 ≤ k ∧ (k < m ∨ (k = 0 ∧ m < 2))
def PickOk (f : Fun1) : Prop := ∀ (u d q : Nat) (st : Store) (xs : List Val), IsUrn u d st → st[q]? = some (.lst xs) → q ≠ u → q ≠ d → xs ≠ [] → xs.length ≤ 1000 → flatAll xs = true → ∃ x st', f [.ref u, .ref q] st = .ok x st' ∧ URs u d st st' ∧ x ∈ xs
def MixOk (f : Fun1) : Prop := ∀ (u d q : Nat) (st : Store) (xs : List Val), IsUrn u d st → st[q]? = some (.lst xs) → q ≠ u → q ≠ d → flatAll xs = true → xs.length ≤ 1000 →
  ∃ ys st', f [.ref u, .ref q] st = .ok (.ref st.length) (st' ++ [.lst ys]) ∧ URs u d st st' ∧ ys.Perm xs
end EV
namespace EV
open PySem PySem.Spec L2

/-! ### texts of data: how long -/
mutual
/-- short leaves alone -/
def Val.fine : Val → Bool
  | .int i => decide ((PyData.shown (.int i)).length ≤ 60 ∧ i.natAbs.log2 < 1920)
  | .str x => decide ((PyData.shown (.str x)).length ≤ 60)
  | .tup xs => fineAll xs
  | _ => false
def fineAll : List Val → Bool
  | [] => true
  | x :: xs => x.fine && fineAll xs
end
mutual
def Val.tl : Val → Nat
  | .tup xs => tlAll xs + 2
  | _ => 60
def tlAll : List Val → Nat
  | [] => 0
  | x :: xs => x.tl + 2 + tlAll xs
end
mutual
def Val.dep : Val → Nat
  | .tup xs => depAll xs + 1
  | _ => 0
def depAll : List Val → Nat
  | [] => 0
  | x :: xs => max x.dep (depAll xs)
end
theorem piled_tup (ts : List Str) : (tupleText ts).length ≤ piled ts + 2 := by
  unfold tupleText
  rw [strLen_append, strLen_append]
  have e1 : ((("(" : String) : Str)).length = 1 := rfl
  rw [e1]
  cases ts with
  | nil =>
    show 1 + (Str.join ", " []).length + _ ≤ _
    have e2 : (Str.join ", " [] : Str).length = 0 := rfl
    have e3 : (((if ([] : List Str).length == 1 then ",)" else ")" : String) : Str)).length = 1 := rfl
    rw [e2, e3]; omega
  | cons t r =>
    have h := join_length_add (t :: r) (by simp)
    have e3 : (((if (t :: r).length == 1 then ",)" else ")" : String) : Str)).length ≤ 2 := by split <;> decide
    omega
theorem piled_list (ts : List Str) : (listText ts).length ≤ piled ts + 2 := by
  have go : ∀ (ts : List Str) (k : Nat) (acc : Str), (textFrom k acc ts).length ≤ acc.length + piled ts := by
    intro ts
    induction ts with
    | nil => intro k acc; show acc.length ≤ _; omega
    | cons t r ih =>
      intro k acc
      have h := ih (k + 1) (acc ++ (if k > 0 then ", " else "" : String) ++ t)
      have e : (acc ++ (if k > 0 then ", " else "" : String) ++ t).length ≤ acc.length + 2 + t.length := by
        rw [strLen_append, strLen_append]
        have : (((if k > 0 then ", " else "" : String)) : Str).length ≤ 2 := by split <;> decide
        omega
      rw [piled_cons]
      show (textFrom (k + 1) (acc ++ (if k > 0 then ", " else "" : String) ++ t) r).length ≤ _
      omega
  unfold listText
  rw [strLen_append]
  have h := go ts 0 "["
  have e1 : ((("[" : String) : Str)).length = 1 := rfl
  have e2 : ((("]" : String) : Str)).length = 1 := rfl
  rw [e1] at h
  rw [e2]; omega
mutual
theorem Val.fine_pd : ∀ x : Val, x.fine = true → ∃ d, x.pd = some d ∧ d.showable = true ∧ d.hasDict = false ∧ d.shown.length ≤ x.tl ∧ d.depth = x.dep
  | .int i, h => by
    unfold Val.fine at h
    have h := of_decide_eq_true h
    exact ⟨.int i, by unfold Val.pd; rfl, by unfold PyData.showable; exact decide_eq_true h.2, by unfold PyData.hasDict; rfl, by unfold Val.tl; exact h.1, by unfold PyData.depth Val.dep; rfl⟩
  | .str x, h => by
    unfold Val.fine at h
    have h := of_decide_eq_true h
    exact ⟨.str x, by unfold Val.pd; rfl, by unfold PyData.showable; rfl, by unfold PyData.hasDict; rfl, by unfold Val.tl; exact h, by unfold PyData.depth Val.dep; rfl⟩
  | .tup xs, h => by
    unfold Val.fine at h
    obtain ⟨ds, h1, h2, h3, h4, h5⟩ := fineAll_pd xs h
    refine ⟨.tuple ds, by unfold Val.pd; rw [h1], by unfold PyData.showable; exact h2, by unfold PyData.hasDict; exact h3, ?_, by unfold PyData.depth Val.dep; rw [h5]⟩
    unfold PyData.shown Val.tl
    have := piled_tup (PyData.shownAll ds)
    omega
  | .non, h => by unfold Val.fine at h; cases h
  | .bl _, h => by unfold Val.fine at h; cases h
  | .ty _, h => by unfold Val.fine at h; cases h
  | .ref _, h => by unfold Val.fine at h; cases h
  | .kl _, h => by unfold Val.fine at h; cases h
theorem fineAll_pd : ∀ xs : List Val, fineAll xs = true → ∃ ds, pdAll xs = some ds ∧ PyData.showableAll ds = true ∧ PyData.hasDictAll ds = false ∧ piled (PyData.shownAll ds) ≤ tlAll xs ∧ PyData.depthAll ds = depAll xs
  | [], _ => ⟨[], by unfold pdAll; rfl, by unfold PyData.showableAll; rfl, by unfold PyData.hasDictAll; rfl, by unfold PyData.shownAll tlAll; exact Nat.le_refl _, by unfold PyData.depthAll depAll; rfl⟩
  | x :: xs, h => by
    unfold fineAll at h
    rw [Bool.and_eq_true] at h
    obtain ⟨d, a1, a2, a3, a4, a5⟩ := Val.fine_pd x h.1
    obtain ⟨ds, b1, b2, b3, b4, b5⟩ := fineAll_pd xs h.2
    refine ⟨d :: ds, by unfold pdAll; rw [a1, b1], by unfold PyData.showableAll; rw [a2, b2]; rfl, by unfold PyData.hasDictAll; rw [a3, b3]; rfl, ?_, by unfold PyData.depthAll depAll; rw [a5, b5]⟩
    unfold PyData.shownAll tlAll
    rw [piled_cons]
    omega
end
/-- repr of a tuple -/
theorem nRepr_tup {xs : List Val} (h : fineAll xs = true) (hl : tlAll xs ≤ 16000000) (hd : depAll xs ≤ 60) : ∃ t : Str, ∀ st : Store, nRepr [.tup xs] st = some (.str t, st) := by
  obtain ⟨d, h1, h2, h3, h4, h5⟩ := Val.fine_pd (.tup xs) (by unfold Val.fine; exact h)
  unfold Val.tl at h4
  unfold Val.dep at h5
  refine ⟨d.shown, fun st => ?_⟩
  have hp : pdAt st (.tup xs) = some d := h1
  show (if (Val.tup xs).isObj = true then (match pdAt st (.tup xs) with
    | some d => if d.showable = true ∧ d.hasDict = false ∧ fits d.shown.length ∧ d.depth ≤ 64 then some (Val.str d.shown, st) else none
    | none => none) else none) = _
  rw [if_pos (show (Val.tup xs).isObj = true from rfl), hp]
  exact if_pos ⟨h2, h3, by unfold fits; rw [szl]; omega, by omega⟩
/-- repr of a list: its text hangs on what it holds alone -/
theorem nRepr_lst {xs : List Val} (h : fineAll xs = true) (hl : tlAll xs ≤ 16000000) (hd : depAll xs ≤ 60) : ∃ t : Str, ∀ (st : Store) (r : Nat), st[r]? = some (.lst xs) → nRepr [.ref r] st = some (.str t, st) := by
  obtain ⟨ds, h1, h2, h3, h4, h5⟩ := fineAll_pd xs h
  refine ⟨(PyData.list ds).shown, fun st r hr => ?_⟩
  have hp : pdAt st (.ref r) = some (.list ds) := by unfold pdAt; simp only [hr, h1]
  show (if (Val.ref r).isObj = true then (match pdAt st (.ref r) with
    | some d => if d.showable = true ∧ d.hasDict = false ∧ fits d.shown.length ∧ d.depth ≤ 64 then some (Val.str d.shown, st) else none
    | none => none) else none) = _
  rw [if_pos (show (Val.ref r).isObj = true from rfl), hp]
  have hs : (PyData.list ds).shown.length ≤ tlAll xs + 2 := by
    unfold PyData.shown
    have := piled_list (PyData.shownAll ds)
    omega
  exact if_pos ⟨by unfold PyData.showable; exact h2, by unfold PyData.hasDict; exact h3, by unfold fits; rw [szl]; omega, by unfold PyData.depth; omega⟩
theorem fine_int {i : Int} (h : 0 ≤ i) (h2 : i < 200) : (Val.int i).fine = true := by
  obtain ⟨n, rfl⟩ := Int.eq_ofNat_of_zero_le h
  have : ∀ n : Fin 200, (Val.int (n.val : Int)).fine = true := by decide +kernel
  exact this ⟨n, by omega⟩
theorem fineAll_iff {xs : List Val} : fineAll xs = true ↔ ∀ x ∈ xs, x.fine = true := by
  induction xs with
  | nil => simp [fineAll]
  | cons x xs ih => rw [fineAll, Bool.and_eq_true, ih]; simp
mutual
theorem Val.fine_flat : ∀ x : Val, x.fine = true → x.flat = true
  | .int i, _ => by simp
  | .str x, _ => by simp
  | .tup xs, h => by unfold Val.fine at h; unfold Val.flat; exact fineAll_flat xs h
  | .non, h => by unfold Val.fine at h; cases h
  | .bl _, h => by unfold Val.fine at h; cases h
  | .ty _, h => by unfold Val.fine at h; cases h
  | .ref _, h => by unfold Val.fine at h; cases h
  | .kl _, h => by unfold Val.fine at h; cases h
theorem fineAll_flat : ∀ xs : List Val, fineAll xs = true → flatAll xs = true
  | [], _ => by simp
  | x :: xs, h => by
    unfold fineAll at h
    rw [Bool.and_eq_true] at h
    rw [flatAll_cons, Val.fine_flat x h.1, fineAll_flat xs h.2]; rfl
end
@[simp] theorem fine_tup {xs : List Val} : (Val.tup xs).fine = fineAll xs := by rw [Val.fine]
@[simp] theorem fineAll_nil : fineAll [] = true := by rw [fineAll]
@[simp] theorem fineAll_cons {x : Val} {xs : List Val} : fineAll (x :: xs) = (x.fine && fineAll xs) := by rw [fineAll]
@[simp] theorem fineAll_app {xs ys : List Val} : fineAll (xs ++ ys) = (fineAll xs && fineAll ys) := by
  induction xs with
  | nil => simp
  | cons x xs ih => simp [ih, Bool.and_assoc]
@[simp] theorem tl_tup {xs : List Val} : (Val.tup xs).tl = tlAll xs + 2 := by rw [Val.tl]
@[simp] theorem tl_int {i : Int} : (Val.int i).tl = 60 := by rw [Val.tl]; simp
@[simp] theorem tl_str {x : Str} : (Val.str x).tl = 60 := by rw [Val.tl]; simp
@[simp] theorem tlAll_nil : tlAll [] = 0 := by rw [tlAll]
@[simp] theorem tlAll_cons {x : Val} {xs : List Val} : tlAll (x :: xs) = x.tl + 2 + tlAll xs := by rw [tlAll]
@[simp] theorem tlAll_app {xs ys : List Val} : tlAll (xs ++ ys) = tlAll xs + tlAll ys := by
  induction xs with
  | nil => simp
  | cons x xs ih => simp [ih]; omega
@[simp] theorem dep_tup {xs : List Val} : (Val.tup xs).dep = depAll xs + 1 := by rw [Val.dep]
@[simp] theorem dep_int {i : Int} : (Val.int i).dep = 0 := by rw [Val.dep]; simp
@[simp] theorem dep_str {x : Str} : (Val.str x).dep = 0 := by rw [Val.dep]; simp
@[simp] theorem depAll_nil : depAll [] = 0 := by rw [depAll]
@[simp] theorem depAll_cons {x : Val} {xs : List Val} : depAll (x :: xs) = max x.dep (depAll xs) := by rw [depAll]
theorem tlAll_le {xs : List Val} {B : Nat} (h : ∀ x ∈ xs, x.tl ≤ B) : tlAll xs ≤ xs.length * (B + 2) := by
  induction xs with
  | nil => simp
  | cons x xs ih =>
    have h1 := h x (List.mem_cons_self ..)
    have h2 := ih fun y hy => h y (List.mem_cons_of_mem _ hy)
    rw [tlAll_cons, List.length_cons, Nat.succ_mul]
    omega
theorem depAll_le {xs : List Val} {B : Nat} (h : ∀ x ∈ xs, x.dep ≤ B) : depAll xs ≤ B := by
  induction xs with
  | nil => simp
  | cons x xs ih =>
    rw [depAll_cons]
    exact Nat.max_le.mpr ⟨h x (List.mem_cons_self ..), ih fun y hy => h y (List.mem_cons_of_mem _ hy)⟩
end EV
namespace EV
open PySem PySem.Spec L2

/-! ### operations by what stands at a place -/
section
variable {st : Store} {r s : Nat} {xs ys : List Val} {x v : Val} {i : Int} {kvs : List (Key × Val)} {a : Str} {k : Bool}
def kAddR (c c' : Option Cell) (st : Store) : Option (Val × Store) := match c, c' with
  | some (.lst xs), some (.lst ys) => if fits (xs.length + ys.length) then some (.ref st.length, st ++ [.lst (xs ++ ys)]) else none
  | _, _ => none
theorem oAdd_ref : oAdd (.ref r) (.ref s) st = kAddR st[r]? st[s]? st := rfl
theorem kAddR_ll (h : xs.length + ys.length ≤ 16777216) : kAddR (some (.lst xs)) (some (.lst ys)) st = some (.ref st.length, st ++ [.lst (xs ++ ys)]) := if_pos (by unfold fits; rw [szl]; exact h)
def kTupR (c : Option Cell) (st : Store) : Option (Val × Store) := match c with
  | some (.lst xs) => some (.tup xs, st)
  | _ => none
theorem nTuple_ref : nTuple [.ref r] st = kTupR st[r]? st := rfl
theorem kTupR_l : kTupR (some (.lst xs)) st = some (.tup xs, st) := rfl
def kAppR (c : Option Cell) (r : Nat) (v : Val) (st : Store) : Option (Val × Store) := match c with
  | some (.lst xs) => if xs.length < sizeLine then some (.non, st.set r (.lst (xs ++ [v]))) else none
  | _ => none
theorem mAppend_ref : mAppend (.ref r) [v] st = kAppR st[r]? r v st := rfl
theorem kAppR_l (h : xs.length < 16777216) : kAppR (some (.lst xs)) r v st = some (.non, st.set r (.lst (xs ++ [v]))) := if_pos (by rw [szl]; exact h)
def kExtR (c c' : Option Cell) (r : Nat) (st : Store) : Option (Val × Store) := match c, c' with
  | some (.lst xs), some (.lst ys) => if fits (xs.length + ys.length) then some (.non, st.set r (.lst (xs ++ ys))) else none
  | _, _ => none
theorem mExtend_ref : mExtend (.ref r) [.ref s] st = kExtR st[r]? st[s]? r st := rfl
theorem kExtR_l (h : xs.length + ys.length ≤ 16777216) : kExtR (some (.lst xs)) (some (.lst ys)) r st = some (.non, st.set r (.lst (xs ++ ys))) := if_pos (by unfold fits; rw [szl]; exact h)
def kExtT (c : Option Cell) (ys : List Val) (r : Nat) (st : Store) : Option (Val × Store) := match c with
  | some (.lst xs) => if fits (xs.length + ys.length) then some (.non, st.set r (.lst (xs ++ ys))) else none
  | _ => none
theorem mExtend_tupR : mExtend (.ref r) [.tup ys] st = kExtT st[r]? ys r st := rfl
theorem kExtT_l (h : xs.length + ys.length ≤ 16777216) : kExtT (some (.lst xs)) ys r st = some (.non, st.set r (.lst (xs ++ ys))) := if_pos (by unfold fits; rw [szl]; exact h)
def kRevR (c : Option Cell) (st : Store) : Option (Val × Store) := match c with
  | some (.lst xs) => some (.ref st.length, st ++ [.lst xs.reverse])
  | _ => none
theorem oRev_ref : oRev (.ref r) st = kRevR st[r]? st := rfl
theorem kRevR_l : kRevR (some (.lst xs)) st = some (.ref st.length, st ++ [.lst xs.reverse]) := rfl
def kMulR (c : Option Cell) (k : Int) (st : Store) : Option (Val × Store) := match c with
  | some (.lst xs) => if (-(2 ^ 63) ≤ k ∧ k < 2 ^ 63) ∧ fits (xs.length * k.toNat) then some (.ref st.length, st ++ [.lst (List.replicate k.toNat xs).flatten]) else none
  | _ => none
theorem oMul_ref : oMul (.ref r) (.int i) st = kMulR st[r]? i st := rfl
/-- a place asked by a text -/
def kIxS (c : Option Cell) (a : Str) (st : Store) : Option (Val × Store) := match c with
  | some (.dK kvs) => ixJ (dget kvs (.inr a)) st
  | _ => none
theorem oIx_refS (h : st[r]? = some (.dK kvs)) : oIx (.ref r) (.str a) st = kIxS st[r]? a st := by rw [oIx_str h, h]; rfl
/-- x[:n] of a list -/
theorem slOf_list {n : Nat} (h : st[r]? = some (.lst xs)) (hn : n ≤ xs.length) : slOf (.ref r) none (some (n : Int)) st = some (.ref st.length, st ++ [.lst (xs.take n)]) := by
  unfold slOf
  simp only [h]
  have e : cutX xs none (some (n : Int)) = xs.take n := by
    unfold cutX
    rw [HT.sIx_none, HT.sIx_nat, Nat.min_eq_left hn]
    simp
  rw [e]
theorem slOf_tup {n : Nat} (hn : n ≤ xs.length) : slOf (.tup xs) none (some (n : Int)) st = some (.tup (xs.take n), st) := by
  unfold slOf
  have e : cutX xs none (some (n : Int)) = xs.take n := by
    unfold cutX
    rw [HT.sIx_none, HT.sIx_nat, Nat.min_eq_left hn]
    simp
  simp only [e]
end
theorem seq_go {p q : Sm} {ρ ρ1 : Slots} {st st1 : Store} {r : RS} (h : p ρ st = .nx ρ1 st1) (k : q ρ1 st1 = r) : sSeq p q ρ st = r := by
  rw [sSeq_k, h]; exact k
theorem if_t {t : Et} {p q : Sm} {ρ : Slots} {st st1 : Store} {r : RS} (h : t ρ st = .ok true st1) (k : p ρ st1 = r) : sIf t p q ρ st = r := by
  show (t ρ st).thenS ρ _ = r
  rw [h]; exact k
theorem if_f {t : Et} {p q : Sm} {ρ : Slots} {st st1 : Store} {r : RS} (h : t ρ st = .ok false st1) (k : q ρ st1 = r) : sIf t p q ρ st = r := by
  show (t ρ st).thenS ρ _ = r
  rw [h]; exact k
end EV
namespace W64
open PySem PySem.Spec L2 PyProof.Rows EV
abbrev top (i : Nat) : Stmt := PySem.Challenge.pw_everystart_k64_whole_settled_parts_and_u.main.body.getD i (.Pass ⟨0, 0, 0, 0⟩)
/-- is_branching -/
noncomputable def m0 (C : Nat → Fun1) : Sm := sSeq (sIf (EV.tOr (tNot (tOf (eOpN nIsi (lCons (eVar 0) (lCons (eC (.ty "tuple")) (lNil)))))) (EV.tOr (tOf (eOp2 oNe (eOpN nLen (lCons (eVar 0) (lNil))) (eC (.int 4)))) (tNot (tOf (eOpN nIsi (lCons (eOp2 oIx (eVar 0) (eC (.int 0))) (lCons (eC (.ty "str")) (lNil)))))))) (sRet (eC (.bl false))) (sNop)) (sRet (eAnd (eOp2 oIn (eOp2 oIx (eVar 0) (eC (.int 0))) (eTup (lCons (eC (.str "if")) (lCons (eC (.str "either")) (lNil))))) (eAnd (eOpN nIsi (lCons (eOp2 oIx (eVar 0) (eC (.int 2))) (lCons (eC (.ty "tuple")) (lNil)))) (eOpN nIsi (lCons (eOp2 oIx (eVar 0) (eC (.int 3))) (lCons (eC (.ty "tuple")) (lNil)))))))
noncomputable def e1_0 (C : Nat → Fun1) : Ev := eTup (lCons (eOp2 oAdd (eVar 4) (eTup (lCons (eC (.int 1)) (lCons (eVar 8) (lNil))))) (lCons (eVar 9) (lCons (eOp2 oAdd (eVar 6) (eC (.int 1))) (lNil))))
noncomputable def e1_1 (C : Nat → Fun1) : Ev := eTup (lCons (eOp2 oAdd (eVar 4) (eTup (lCons (eC (.int 0)) (lCons (eVar 8) (lNil))))) (lCons (eVar 9) (lCons (eOp2 oAdd (eVar 6) (eC (.int 1))) (lNil))))
noncomputable def t1_2 (C : Nat → Fun1) : Et := EV.tAnd (tOf (eOp2 oNe (eVar 2) (eLst (lNil)))) (EV.tOr (tOf (eOp1 oIsNone (eVar 1))) (tOf (eOp2 oLt (eOpN nLen (lCons (eVar 3) (lNil))) (eVar 1))))
noncomputable def b1_2 (C : Nat → Fun1) : Sm := sSeq (sSet (eMeth mPop (eVar 2) lNil) (gTupT (gsCons (gSlot 4) (gsCons (gSlot 5) (gsCons (gSlot 6) (gsNil)))))) (sSeq (sDrop (eMeth mAppend (eVar 3) (lCons (eTup (lCons (eVar 4) (lCons (eVar 5) (lCons (eVar 6) (lNil))))) (lNil)))) (sIf (tOf (eCall (C 0) (lCons (eVar 5) (lNil)))) (sSeq (sSet (eComp (EV.iEnum (eOp2 oIx (eVar 5) (eC (.int 2)))) [8, 9] (gTupT (gsCons (gSlot 8) (gsCons (gSlot 9) (gsNil)))) (tTrue) (e1_1 C)) (gSlot 7)) (sSeq (sSet (eOp2 oAdd (eVar 7) (eComp (EV.iEnum (eOp2 oIx (eVar 5) (eC (.int 3)))) [8, 9] (gTupT (gsCons (gSlot 8) (gsCons (gSlot 9) (gsNil)))) (tTrue) (e1_0 C))) (gSlot 7)) (sDrop (eMeth mExtend (eVar 2) (lCons (eOp1 oRev (eVar 7)) (lNil)))))) (sNop)))
noncomputable def e1_3 (C : Nat → Fun1) : Ev := eTup (lCons (eTup (lCons (eVar 8) (lNil))) (lCons (eVar 5) (lCons (eC (.int 0)) (lNil))))
/-- walked -/
noncomputable def m1 (C : Nat → Fun1) : Sm := sSeq (sPar 2 3 (lCons (eOp1 oRev (eComp (EV.iEnum (eVar 0)) [8, 5] (gTupT (gsCons (gSlot 8) (gsCons (gSlot 5) (gsNil)))) (tTrue) (e1_3 C))) (lCons (eLst (lNil)) (lNil)))) (sSeq (sWhile (t1_2 C) (b1_2 C)) (sRet (eVar 3)))
noncomputable def e2_0 (C : Nat → Fun1) : Ev := eVar 1
/-- ways -/
noncomputable def m2 (C : Nat → Fun1) : Sm := sRet (eOpN nTuple (lCons (eComp (iSeq (eCall (C 1) (lCons (eOp2 oIx (eVar 0) (eC (.int 1))) (lCons (eC .non) (lNil))))) [1, 2, 3] (gTupT (gsCons (gSlot 1) (gsCons (gSlot 2) (gsCons (gSlot 3) (gsNil))))) (tTrue) (e2_0 C)) (lNil)))
noncomputable def b3_0 (C : Nat → Fun1) : Sm := sIf (tOf (eOp2 oEq (eOp2 oIx (eVar 3) (eC (.int 0))) (eC (.str "do")))) (sDrop (eMeth mExtend (eVar 2) (lCons (eOp2 oIx (eVar 1) (eOp2 oIx (eVar 3) (eC (.int 1)))) (lNil)))) (sDrop (eMeth mAppend (eVar 2) (lCons (eVar 3) (lNil))))
/-- done_in -/
noncomputable def m3 (C : Nat → Fun1) : Sm := sSeq (sSet (eLst (lNil)) (gSlot 2)) (sSeq (sForA (eVar 0) (gSlot 3) (b3_0 C)) (sRet (eOpN nTuple (lCons (eVar 2) (lNil)))))
noncomputable def e4_0 (C : Nat → Fun1) : Ev := eOp2 oAdd (eC (.int 1)) (eOp2 oIx (eVar 1) (eVar 4))
noncomputable def t4_1 (C : Nat → Fun1) : Et := tOf (eOp2 oNe (eOp2 oIx (eVar 3) (eC (.int 0))) (eC (.str "do")))
noncomputable def e4_1 (C : Nat → Fun1) : Ev := eVar 3
/-- size_of -/
noncomputable def m4 (C : Nat → Fun1) : Sm := sSeq (sSet (eOpN nTuple (lCons (eComp (iSeq (eVar 0)) [3] (gSlot 3) (t4_1 C) (e4_1 C)) (lNil))) (gSlot 2)) (sRet (eOp2 oAdd (eOpN nLen (lCons (eCall (C 2) (lCons (eTup (lCons (eTup (lCons (eC (.str "x")) (lNil))) (lCons (eVar 2) (lNil)))) (lNil))) (lNil))) (eOpN nSum (lCons (eComp (iSeq (eCall (C 10) (lCons (eVar 0) (lNil)))) [4] (gSlot 4) (tTrue) (e4_0 C)) (lNil)))))
/-- told_items -/
noncomputable def m5 (C : Nat → Fun1) : Sm := sRet (eIf (tOf (eOp2 oEq (eOp2 oIx (eVar 0) (eC (.int 0))) (eC (.str "program")))) (eOp2 oIx (eVar 0) (eC (.int 2))) (eOp2 oIx (eVar 0) (eC (.int 4))))
noncomputable def b6_0 (C : Nat → Fun1) : Sm := sPut (eVar 1) (eOp2 oIx (eVar 2) (eC (.int 1))) (eCall (C 4) (lCons (eCall (C 5) (lCons (eVar 2) (lNil))) (lCons (eVar 1) (lNil))))
/-- told_sizes -/
noncomputable def m6 (C : Nat → Fun1) : Sm := sSeq (sSet (eNewK) (gSlot 1)) (sSeq (sForA (eOp2 oIx (eVar 0) (eC (.int 1))) (gSlot 2) (b6_0 C)) (sRet (eVar 1)))
noncomputable def b7_0 (C : Nat → Fun1) : Sm := sPut (eVar 1) (eOp2 oIx (eVar 3) (eC (.int 1))) (eIf (tOf (eOp2 oLe (eOp2 oIx (eVar 2) (eOp2 oIx (eVar 3) (eC (.int 1)))) (eC (.int 40)))) (eCall (C 3) (lCons (eCall (C 5) (lCons (eVar 3) (lNil))) (lCons (eVar 1) (lNil)))) (eTup (lNil)))
/-- all_settled -/
noncomputable def m7 (C : Nat → Fun1) : Sm := sSeq (sPar 1 2 (lCons (eNewK) (lCons (eCall (C 6) (lCons (eVar 0) (lNil))) (lNil)))) (sSeq (sForA (eOp2 oIx (eVar 0) (eC (.int 1))) (gSlot 3) (b7_0 C)) (sRet (eVar 1)))
noncomputable def b8_0 (C : Nat → Fun1) : Sm := sIf (EV.tAnd (tOf (eOpN nIsi (lCons (eVar 1) (lCons (eC (.ty "str")) (lNil))))) (tOf (eOp2 oEq (eOp2 oIx (eVar 2) (eC (.int 1))) (eVar 1)))) (sRet (eVar 2)) (sNop)
/-- part_called -/
noncomputable def m8 (C : Nat → Fun1) : Sm := sSeq (sForA (eOp2 oIx (eVar 0) (eC (.int 1))) (gSlot 2) (b8_0 C)) ((fun _ _ => .bad))
/-- settled -/
noncomputable def m9 (C : Nat → Fun1) : Sm := sSeq (sSet (eCall (C 8) (lCons (eVar 0) (lCons (eVar 1) (lNil)))) (gSlot 2)) (sSeq (sIf (tOf (eOp2 oGt (eOp2 oIx (eCall (C 6) (lCons (eVar 0) (lNil))) (eOp2 oIx (eVar 2) (eC (.int 1)))) (eC (.int 40)))) ((fun _ _ => .bad)) (sNop)) (sRet (eTup (lCons (eOp2 oIx (eVar 0) (eC (.int 0))) (lCons (eOp2 oIx (eCall (C 7) (lCons (eVar 0) (lNil))) (eOp2 oIx (eVar 2) (eC (.int 1)))) (lNil))))))
noncomputable def t10_0 (C : Nat → Fun1) : Et := tOf (eOp2 oEq (eOp2 oIx (eVar 1) (eC (.int 0))) (eC (.str "do")))
noncomputable def e10_0 (C : Nat → Fun1) : Ev := eOp2 oIx (eVar 1) (eC (.int 1))
/-- names_done -/
noncomputable def m10 (C : Nat → Fun1) : Sm := sRet (eComp (iSeq (eVar 0)) [1] (gSlot 1) (t10_0 C) (e10_0 C))
noncomputable def t11_0 (C : Nat → Fun1) : Et := tOf (eOp2 oIn (eOp2 oIx (eVar 4) (eC (.int 1))) (eOp2 oIx (eVar 3) (eOp2 oIx (eVar 2) (eC (.int 1)))))
noncomputable def e11_0 (C : Nat → Fun1) : Ev := eOp2 oIx (eVar 4) (eC (.int 1))
noncomputable def b11_1 (C : Nat → Fun1) : Sm := sPut (eVar 5) (eVar 7) (eC (.bl true))
noncomputable def b11_2 (C : Nat → Fun1) : Sm := sSeq (sPut (eVar 5) (eVar 6) (eC (.bl true))) (sForA (eOp2 oIx (eVar 3) (eVar 6)) (gSlot 7) (b11_1 C))
noncomputable def b11_3 (C : Nat → Fun1) : Sm := sSeq (sSet (eNewK) (gSlot 5)) (sSeq (sForA (eCall (C 10) (lCons (eIf (tOf (eOp2 oEq (eOp2 oIx (eVar 4) (eC (.int 0))) (eC (.str "program")))) (eOp2 oIx (eVar 4) (eC (.int 2))) (eOp2 oAdd (eOp2 oIx (eVar 4) (eC (.int 3))) (eOp2 oIx (eVar 4) (eC (.int 4))))) (lNil))) (gSlot 6) (b11_2 C)) (sPut (eVar 3) (eOp2 oIx (eVar 4) (eC (.int 1))) (eVar 5)))
/-- uses -/
noncomputable def m11 (C : Nat → Fun1) : Sm := sSeq (sSet (eTup (lCons (eCall (C 8) (lCons (eVar 0) (lCons (eVar 1) (lNil)))) (lCons (eNewK) (lNil)))) (gTupT (gsCons (gSlot 2) (gsCons (gSlot 3) (gsNil))))) (sSeq (sForA (eOp2 oIx (eVar 0) (eC (.int 1))) (gSlot 4) (b11_3 C)) (sRet (eOpN nTuple (lCons (eComp (iSeq (eOp2 oIx (eVar 0) (eC (.int 1)))) [4] (gSlot 4) (t11_0 C) (e11_0 C)) (lNil)))))
noncomputable def b12_0 (C : Nat → Fun1) : Sm := sPut (eVar 1) (eOp2 oIx (eVar 2) (eC (.int 1))) (eVar 2)
/-- _law_by_name -/
noncomputable def m12 (C : Nat → Fun1) : Sm := sSeq (sSet (eNewK) (gSlot 1)) (sSeq (sForA (eOp2 oIx (eVar 0) (eC (.int 1))) (gSlot 2) (b12_0 C)) (sRet (eVar 1)))
noncomputable def b13_0 (C : Nat → Fun1) : Sm := sSeq (sIf (tOf (eOp2 oGe (eOpN nAbs (lCons (eVar 2) (lNil))) (eOp2 oPow (eC (.int 10)) (eC (.int 18))))) (sPut (eVar 1) (eC (.str "deep")) (eOp2 oAdd (eLst (lCons (eOpN nAbs (lCons (eVar 2) (lNil))) (lNil))) (eOp2 oIx (eVar 1) (eC (.str "deep"))))) (sNop)) (sSeq (sSet (eOp2 oAdd (eOp2 oMul (eC (.int 2)) (eOpN nAbs (lCons (eVar 2) (lNil)))) (eOpN nInt (lCons (eOp2 oLt (eVar 2) (eC (.int 0))) (lNil)))) (gSlot 3)) (sPut (eVar 1) (eC (.str "state")) (eOp2 oMod (eOpN nInt (lCons (eOp2 oAdd (eOp2 oMul (eOp2 oAdd (eOp2 oAdd (eOp2 oIx (eVar 1) (eC (.str "state"))) (eVar 3)) (eC (.int 1))) (eC (.int 2862933555777941757))) (eC (.int 3037000493))) (lNil))) (eC (.int 2305843009213693951)))))
/-- _law_urn -/
noncomputable def m13 (C : Nat → Fun1) : Sm := sSeq (sSet (eDisp [(Sum.inr ("deep" : Str), eLst (lNil)), (Sum.inr ("state" : Str), eOp2 oAdd (eC (.int 580064)) (eOpN nLen (lCons (eSl (eVar 0) (oNo) (oSome (eC (.int 63)))) (lNil)))), (Sum.inr ("turn" : Str), eC (.int 0))]) (gSlot 1)) (sSeq (sForA (eSl (eVar 0) (oNo) (oSome (eC (.int 63)))) (gSlot 2) (b13_0 C)) (sRet (eVar 1)))
/-- _law_take -/
noncomputable def m14 (C : Nat → Fun1) : Sm := sSeq (sIf (tOf (eOp2 oLt (eVar 1) (eC (.int 2)))) (sRet (eC (.int 0))) (sNop)) (sSeq (sIf (tOf (eOp2 oNe (eOp2 oIx (eVar 0) (eC (.str "deep"))) (eLst (lNil)))) (sSeq (sSet (eMeth mPop (eOp2 oIx (eVar 0) (eC (.str "deep"))) lNil) (gSlot 2)) (sSeq (sIf (tOf (eOp2 oGe (eVar 2) (eVar 1))) (sDrop (eMeth mAppend (eOp2 oIx (eVar 0) (eC (.str "deep"))) (lCons (eOp2 oFloorDiv (eVar 2) (eVar 1)) (lNil)))) (sNop)) (sRet (eOp2 oMod (eOpN nInt (lCons (eVar 2) (lNil))) (eVar 1))))) (sNop)) (sSeq (sPut (eVar 0) (eC (.str "turn")) (eOp2 oAdd (eOp2 oIx (eVar 0) (eC (.str "turn"))) (eC (.int 1)))) (sSeq (sSet (eOp2 oMod (eOpN nInt (lCons (eOp2 oAdd (eOp2 oMul (eOp2 oIx (eVar 0) (eC (.str "state"))) (eC (.int 2862933555777941757))) (eOp2 oMul (eC (.int 3037000493)) (eOp2 oIx (eVar 0) (eC (.str "turn"))))) (lNil))) (eC (.int 2305843009213693951))) (gSlot 3)) (sSeq (sPut (eVar 0) (eC (.str "state")) (eVar 3)) (sRet (eOp2 oMod (eOpN nInt (lCons (eOp2 oFloorDiv (eOp2 oMod (eOpN nInt (lCons (eOp2 oAdd (eOp2 oMul (eVar 3) (eVar 3)) (eOp2 oMul (eC (.int 362436069)) (eVar 3))) (lNil))) (eC (.int 2305843009213693921))) (eC (.int 4194304))) (lNil))) (eVar 1)))))))
/-- _law_pick -/
noncomputable def m15 (C : Nat → Fun1) : Sm := sRet (eOp2 oIx (eVar 1) (eCall (C 14) (lCons (eVar 0) (lCons (eOpN nLen (lCons (eVar 1) (lNil))) (lNil)))))
noncomputable def t16_0 (C : Nat → Fun1) : Et := tOf (eOp2 oNe (eVar 2) (eLst (lNil)))
noncomputable def b16_0 (C : Nat → Fun1) : Sm := sDrop (eMeth mAppend (eVar 3) (lCons (eMeth mPop (eVar 2) (lCons (eCall (C 14) (lCons (eVar 0) (lCons (eOpN nLen (lCons (eVar 2) (lNil))) (lNil)))) (lNil))) (lNil)))
/-- _law_mixed -/
noncomputable def m16 (C : Nat → Fun1) : Sm := sSeq (sPar 2 3 (lCons (eOpN nList (lCons (eVar 1) (lNil))) (lCons (eLst (lNil)) (lNil)))) (sSeq (sWhile (t16_0 C) (b16_0 C)) (sRet (eVar 3)))
/-- _law_is_branch -/
noncomputable def m17 (C : Nat → Fun1) : Sm := sSeq (sIf (EV.tOr (tNot (tOf (eOpN nIsi (lCons (eVar 0) (lCons (eC (.ty "tuple")) (lNil)))))) (EV.tOr (tOf (eOp2 oNe (eOpN nLen (lCons (eVar 0) (lNil))) (eC (.int 4)))) (tNot (tOf (eOpN nIsi (lCons (eOp2 oIx (eVar 0) (eC (.int 0))) (lCons (eC (.ty "str")) (lNil)))))))) (sRet (eC (.bl false))) (sNop)) (sRet (eAnd (eOp2 oIn (eOp2 oIx (eVar 0) (eC (.int 0))) (eTup (lCons (eC (.str "if")) (lCons (eC (.str "either")) (lNil))))) (eAnd (eOpN nIsi (lCons (eOp2 oIx (eVar 0) (eC (.int 2))) (lCons (eC (.ty "tuple")) (lNil)))) (eOpN nIsi (lCons (eOp2 oIx (eVar 0) (eC (.int 3))) (lCons (eC (.ty "tuple")) (lNil)))))))
noncomputable def b18_0 (C : Nat → Fun1) : Sm := sSet (eOp2 oAdd (eOp2 oAdd (eVar 1) (eC (.int 1))) (eIf (tOf (eCall (C 17) (lCons (eVar 2) (lNil)))) (eOp2 oAdd (eCall (C 18) (lCons (eOp2 oIx (eVar 2) (eC (.int 2))) (lNil))) (eCall (C 18) (lCons (eOp2 oIx (eVar 2) (eC (.int 3))) (lNil)))) (eC (.int 0)))) (gSlot 1)
/-- _law_count -/
noncomputable def m18 (C : Nat → Fun1) : Sm := sSeq (sSet (eC (.int 0)) (gSlot 1)) (sSeq (sForA (eVar 0) (gSlot 2) (b18_0 C)) (sRet (eVar 1)))
/-- _law_any_die -/
noncomputable def m19 (C : Nat → Fun1) : Sm := sSeq (sSet (eLst (lCons (eTup (lCons (eC (.str "till")) (lCons (eTup (lCons (eC (.int 1)) (lCons (eC (.int 2)) (lNil)))) (lNil)))) (lCons (eTup (lCons (eC (.str "till")) (lCons (eTup (lCons (eC (.int 2)) (lCons (eC (.int 7)) (lNil)))) (lNil)))) (lCons (eTup (lCons (eC (.str "die")) (lCons (eTup (lCons (eTup (lCons (eC (.int 0)) (lCons (eTup (lCons (eC (.int 1)) (lCons (eC (.int 2)) (lNil)))) (lNil)))) (lCons (eTup (lCons (eC (.int 1)) (lCons (eTup (lCons (eC (.int 1)) (lCons (eC (.int 2)) (lNil)))) (lNil)))) (lNil)))) (lNil)))) (lCons (eTup (lCons (eC (.str "die")) (lCons (eTup (lCons (eTup (lCons (eC (.int 9)) (lCons (eTup (lCons (eC (.int 1)) (lCons (eC (.int 1)) (lNil)))) (lNil)))) (lNil))) (lNil)))) (lNil)))))) (gSlot 1)) (sRet (eCall (C 15) (lCons (eVar 0) (lCons (eOp2 oAdd (eVar 1) (eLst (lCons (eTup (lCons (eC (.str "die")) (lCons (eTup (lCons (eTup (lCons (eC (.int 0)) (lCons (eTup (lCons (eC (.int 1)) (lCons (eC (.int 3)) (lNil)))) (lNil)))) (lCons (eTup (lCons (eC (.int 4)) (lCons (eTup (lCons (eC (.int 2)) (lCons (eC (.int 3)) (lNil)))) (lNil)))) (lNil)))) (lNil)))) (lCons (eTup (lCons (eC (.str "die")) (lCons (eTup (lCons (eTup (lCons (eC (.int 2)) (lCons (eTup (lCons (eC (.int 1)) (lCons (eC (.int 7)) (lNil)))) (lNil)))) (lCons (eTup (lCons (eC (.int 8)) (lCons (eTup (lCons (eC (.int 6)) (lCons (eC (.int 7)) (lNil)))) (lNil)))) (lNil)))) (lNil)))) (lNil))))) (lNil)))))
/-- _law_any_step -/
noncomputable def m20 (C : Nat → Fun1) : Sm := sSeq (sPar 4 5 (lCons (eCall (C 14) (lCons (eVar 0) (lCons (eVar 1) (lNil)))) (lCons (eCall (C 14) (lCons (eVar 0) (lCons (eC (.int 10)) (lNil)))) (lNil)))) (sSeq (sIf (tOf (eOp2 oEq (eVar 5) (eC (.int 0)))) (sRet (eTup (lCons (eC (.str "set")) (lCons (eVar 4) (lCons (eCall (C 15) (lCons (eVar 0) (lCons (eLst (lCons (eC (.int 0)) (lCons (eC (.int 1)) (lCons (eC (.int 7)) (lCons (eC (.int 20)) (lNil)))))) (lNil)))) (lNil)))))) (sNop)) (sSeq (sIf (tOf (eOp2 oEq (eVar 5) (eC (.int 1)))) (sRet (eTup (lCons (eC (.str "add")) (lCons (eVar 4) (lCons (eCall (C 15) (lCons (eVar 0) (lCons (eLst (lCons (eC (.int 1)) (lCons (eC (.int 2)) (lCons (eC (.int 20)) (lNil))))) (lNil)))) (lNil)))))) (sNop)) (sSeq (sIf (tOf (eOp2 oEq (eVar 5) (eC (.int 2)))) (sRet (eTup (lCons (eC (.str "less")) (lCons (eVar 4) (lNil))))) (sNop)) (sSeq (sIf (tOf (eOp2 oEq (eVar 5) (eC (.int 3)))) (sRet (eTup (lCons (eC (.str "throw")) (lCons (eVar 4) (lCons (eCall (C 19) (lCons (eVar 0) (lNil))) (lNil)))))) (sNop)) (sSeq (sIf (tOf (eOp2 oEq (eVar 5) (eC (.int 4)))) (sRet (eTup (lCons (eC (.str "sum")) (lCons (eVar 4) (lCons (eCall (C 19) (lCons (eVar 0) (lNil))) (lCons (eCall (C 14) (lCons (eVar 0) (lCons (eVar 1) (lNil)))) (lNil))))))) (sNop)) (sSeq (sSet (eTup (lCons (eCall (C 14) (lCons (eVar 0) (lCons (eVar 1) (lNil)))) (lCons (eCall (C 15) (lCons (eVar 0) (lCons (eLst (lCons (eC (.str "below")) (lCons (eC (.str "from")) (lNil)))) (lNil)))) (lCons (eOp2 oAdd (eC (.int 1)) (eCall (C 14) (lCons (eVar 0) (lCons (eC (.int 4)) (lNil))))) (lNil))))) (gSlot 6)) (sSeq (sIf (EV.tOr (tOf (eOp2 oEq (eVar 5) (eC (.int 5)))) (EV.tAnd (tOf (eOp2 oEq (eVar 2) (eC (.int 0)))) (tOf (eOp2 oLt (eVar 5) (eC (.int 8)))))) (sRet (eTup (lCons (eC (.str "seen")) (lCons (eVar 6) (lNil))))) (sNop)) (sSeq (sIf (tOf (eOp2 oLt (eVar 5) (eC (.int 8)))) (sSeq (sPar 7 8 (lCons (eCall (C 21) (lCons (eVar 0) (lCons (eVar 1) (lCons (eOp2 oSub (eVar 2) (eC (.int 1))) (lCons (eLst (lNil)) (lNil)))))) (lCons (eCall (C 21) (lCons (eVar 0) (lCons (eVar 1) (lCons (eOp2 oSub (eVar 2) (eC (.int 1))) (lCons (eLst (lNil)) (lNil)))))) (lNil)))) (sRet (eIf (tOf (eOp2 oEq (eVar 5) (eC (.int 6)))) (eTup (lCons (eC (.str "if")) (lCons (eVar 6) (lCons (eVar 7) (lCons (eVar 8) (lNil)))))) (eTup (lCons (eC (.str "either")) (lCons (eCall (C 15) (lCons (eVar 0) (lCons (eLst (lCons (eTup (lCons (eC (.int 1)) (lCons (eC (.int 2)) (lNil)))) (lCons (eTup (lCons (eC (.int 1)) (lCons (eC (.int 97)) (lNil)))) (lCons (eTup (lCons (eC (.int 3)) (lCons (eC (.int 4)) (lNil)))) (lNil))))) (lNil)))) (lCons (eVar 7) (lCons (eVar 8) (lNil))))))))) (sNop)) (sRet (eIf (tOf (eOp2 oNe (eVar 3) (eLst (lNil)))) (eTup (lCons (eC (.str "do")) (lCons (eCall (C 15) (lCons (eVar 0) (lCons (eVar 3) (lNil)))) (lNil)))) (eTup (lCons (eC (.str "less")) (lCons (eVar 4) (lNil))))))))))))))
noncomputable def e21_0 (C : Nat → Fun1) : Ev := eCall (C 20) (lCons (eVar 0) (lCons (eVar 1) (lCons (eVar 2) (lCons (eVar 3) (lNil)))))
/-- _law_any_steps -/
noncomputable def m21 (C : Nat → Fun1) : Sm := sRet (eOpN nTuple (lCons (eComp (iRange1 (eCall (C 15) (lCons (eVar 0) (lCons (eLst (lCons (eC (.int 0)) (lCons (eC (.int 1)) (lCons (eC (.int 1)) (lCons (eC (.int 2)) (lCons (eC (.int 3)) (lNil))))))) (lNil))))) [4] (gSlot 4) (tTrue) (e21_0 C)) (lNil)))
/-- _law_names -/
noncomputable def m22 (C : Nat → Fun1) : Sm := sSeq (sSet (eLst (lCons (eC (.str "x")) (lCons (eC (.str "y")) (lCons (eC (.str "n")) (lCons (eC (.str "a")) (lCons (eC (.str "so")) (lCons (eC (.str "abcdefgh")) (lCons (eC (.str "zz")) (lCons (eC (.str "dodo")) (lCons (eC (.str "ifs")) (lCons (eC (.str "told")) (lCons (eC (.str "from")) (lCons (eC (.str "below")) (lCons (eC (.str "z")) (lCons (eC (.str "w")) (lCons (eC (.str "pq")) (lCons (eC (.str "elses")) (lNil)))))))))))))))))) (gSlot 2)) (sSeq (sSet (eOp2 oAdd (eVar 2) (eLst (lCons (eC (.str "skipp")) (lCons (eC (.str "tills")) (lCons (eC (.str "b")) (lCons (eC (.str "c")) (lCons (eC (.str "d")) (lCons (eC (.str "e")) (lCons (eC (.str "f")) (lCons (eC (.str "g")) (lCons (eC (.str "h")) (lNil)))))))))))) (gSlot 2)) (sRet (eSl (eCall (C 16) (lCons (eVar 0) (lCons (eVar 2) (lNil)))) (oNo) (oSome (eVar 1)))))
noncomputable def e23_0 (C : Nat → Fun1) : Ev := eCall (C 15) (lCons (eVar 0) (lCons (eLst (lCons (eTup (lCons (eC (.int 0)) (lCons (eC (.int 1)) (lNil)))) (lCons (eTup (lCons (eC (.int 1)) (lCons (eC (.int 1)) (lNil)))) (lCons (eTup (lCons (eC (.int 2)) (lCons (eC (.int 3)) (lNil)))) (lCons (eTup (lCons (eC (.int 7)) (lCons (eC (.int 1)) (lNil)))) (lNil)))))) (lNil)))
noncomputable def b23_1 (C : Nat → Fun1) : Sm := sSeq (sSet (eCall (C 21) (lCons (eVar 0) (lCons (eVar 2) (lCons (eC (.int 1)) (lCons (eVar 6) (lNil)))))) (gSlot 8)) (sSeq (sIf (tOf (eOp2 oEq (eCall (C 14) (lCons (eVar 0) (lCons (eC (.int 2)) (lNil)))) (eC (.int 0)))) (sDrop (eMeth mAppend (eVar 5) (lCons (eTup (lCons (eC (.str "program")) (lCons (eVar 7) (lCons (eVar 8) (lNil))))) (lNil)))) (sSeq (sSet (eTup (lCons (eCall (C 14) (lCons (eVar 0) (lCons (eVar 2) (lNil)))) (lCons (eCall (C 15) (lCons (eVar 0) (lCons (eLst (lCons (eC (.str "below")) (lCons (eC (.str "from")) (lNil)))) (lNil)))) (lCons (eOp2 oAdd (eC (.int 1)) (eCall (C 14) (lCons (eVar 0) (lCons (eC (.int 4)) (lNil))))) (lNil))))) (gSlot 9)) (sSeq (sSet (eCall (C 21) (lCons (eVar 0) (lCons (eVar 2) (lCons (eC (.int 1)) (lCons (eVar 6) (lNil)))))) (gSlot 10)) (sSeq (sSet (eOpN nTuple (lCons (eComp (iRange1 (eVar 2)) [12] (gSlot 12) (tTrue) (e23_0 C)) (lNil))) (gSlot 11)) (sDrop (eMeth mAppend (eVar 5) (lCons (eTup (lCons (eC (.str "loop")) (lCons (eVar 7) (lCons (eVar 9) (lCons (eVar 8) (lCons (eVar 10) (lCons (eVar 11) (lNil)))))))) (lNil)))))))) (sDrop (eMeth mAppend (eVar 6) (lCons (eVar 7) (lNil)))))
/-- _law_any_book -/
noncomputable def m23 (C : Nat → Fun1) : Sm := sSeq (sSet (eOp2 oAdd (eC (.int 1)) (eCall (C 14) (lCons (eVar 0) (lCons (eC (.int 3)) (lNil))))) (gSlot 2)) (sSeq (sSet (eOpN nTuple (lCons (eCall (C 22) (lCons (eVar 0) (lCons (eVar 2) (lNil)))) (lNil))) (gSlot 3)) (sSeq (sPar3 4 5 6 (lCons (eCall (C 22) (lCons (eVar 0) (lCons (eVar 1) (lNil)))) (lCons (eLst (lNil)) (lCons (eLst (lNil)) (lNil))))) (sSeq (sForA (eSl (eVar 4) (oNo) (oSome (eCall (C 14) (lCons (eVar 0) (lCons (eOp2 oAdd (eVar 1) (eC (.int 1))) (lNil)))))) (gSlot 7) (b23_1 C)) (sRet (eTup (lCons (eVar 3) (lCons (eOpN nTuple (lCons (eVar 5) (lNil))) (lNil))))))))
noncomputable def b24_0 (C : Nat → Fun1) : Sm := sIf (tOf (eOp2 oEq (eOp2 oIx (eVar 3) (eC (.int 0))) (eC (.str "do")))) (sSeq (sSet (eOp2 oIx (eVar 0) (eOp2 oIx (eVar 3) (eC (.int 1)))) (gSlot 4)) (sSet (eOp2 oAdd (eVar 2) (eCall (C 24) (lCons (eVar 0) (lCons (eIf (tOf (eOp2 oEq (eOp2 oIx (eVar 4) (eC (.int 0))) (eC (.str "program")))) (eOp2 oIx (eVar 4) (eC (.int 2))) (eOp2 oIx (eVar 4) (eC (.int 4)))) (lNil))))) (gSlot 2))) (sSet (eOp2 oAdd (eVar 2) (eTup (lCons (eVar 3) (lNil)))) (gSlot 2))
/-- _law_settled -/
noncomputable def m24 (C : Nat → Fun1) : Sm := sSeq (sSet (eTup (lNil)) (gSlot 2)) (sSeq (sForA (eVar 1) (gSlot 3) (b24_0 C)) (sRet (eVar 2)))
noncomputable def t25_0 (C : Nat → Fun1) : Et := tOf (eOp2 oEq (eOp2 oIx (eVar 2) (eC (.int 0))) (eC (.str "do")))
noncomputable def e25_0 (C : Nat → Fun1) : Ev := eOp2 oIx (eVar 2) (eC (.int 1))
/-- _law_done -/
noncomputable def m25 (C : Nat → Fun1) : Sm := sSeq (sSet (eIf (tOf (eOp2 oEq (eOp2 oIx (eVar 0) (eC (.int 0))) (eC (.str "program")))) (eOp2 oIx (eVar 0) (eC (.int 2))) (eOp2 oAdd (eOp2 oIx (eVar 0) (eC (.int 3))) (eOp2 oIx (eVar 0) (eC (.int 4))))) (gSlot 1)) (sRet (eComp (iSeq (eVar 1)) [2] (gSlot 2) (t25_0 C) (e25_0 C)))
noncomputable def b26_0 (C : Nat → Fun1) : Sm := sIf (tOf (eOp2 oNotIn (eVar 4) (eVar 2))) (sSeq (sDrop (eMeth mAppend (eVar 2) (lCons (eVar 4) (lNil)))) (sDrop (eMeth mAppend (eVar 3) (lCons (eVar 4) (lNil))))) (sNop)
noncomputable def t26_1 (C : Nat → Fun1) : Et := tOf (eOp2 oNe (eVar 3) (eLst (lNil)))
noncomputable def b26_1 (C : Nat → Fun1) : Sm := sForA (eCall (C 25) (lCons (eOp2 oIx (eVar 0) (eMeth mPop (eVar 3) lNil)) (lNil))) (gSlot 4) (b26_0 C)
/-- _law_all_done -/
noncomputable def m26 (C : Nat → Fun1) : Sm := sSeq (sPar 2 3 (lCons (eLst (lNil)) (lCons (eLst (lCons (eVar 1) (lNil))) (lNil)))) (sSeq (sWhile (t26_1 C) (b26_1 C)) (sRet (eVar 2)))
noncomputable def b27_0 (C : Nat → Fun1) : Sm := sSeq (sSet (eOp2 oAdd (eVar 2) (eCall (C 18) (lCons (eTup (lCons (eVar 3) (lNil))) (lNil)))) (gSlot 2)) (sIf (tOf (eOp2 oEq (eOp2 oIx (eVar 3) (eC (.int 0))) (eC (.str "do")))) (sSeq (sSet (eOp2 oIx (eVar 0) (eOp2 oIx (eVar 3) (eC (.int 1)))) (gSlot 4)) (sSet (eOp2 oAdd (eVar 2) (eCall (C 27) (lCons (eVar 0) (lCons (eIf (tOf (eOp2 oEq (eOp2 oIx (eVar 4) (eC (.int 0))) (eC (.str "program")))) (eOp2 oIx (eVar 4) (eC (.int 2))) (eOp2 oIx (eVar 4) (eC (.int 4)))) (lNil))))) (gSlot 2))) (sNop))
/-- _law_weight -/
noncomputable def m27 (C : Nat → Fun1) : Sm := sSeq (sSet (eC (.int 0)) (gSlot 2)) (sSeq (sForA (eVar 1) (gSlot 3) (b27_0 C)) (sRet (eVar 2)))
/-- _law_is_small -/
noncomputable def m28 (C : Nat → Fun1) : Sm := sRet (eOp2 oLt (eCall (C 27) (lCons (eVar 0) (lCons (eIf (tOf (eOp2 oEq (eOp2 oIx (eVar 1) (eC (.int 0))) (eC (.str "program")))) (eOp2 oIx (eVar 1) (eC (.int 2))) (eOp2 oIx (eVar 1) (eC (.int 4)))) (lNil)))) (eC (.int 41)))
noncomputable def t29_0 (C : Nat → Fun1) : Et := tOf (eOp2 oIn (eOp2 oIx (eVar 14) (eC (.int 1))) (eVar 11))
noncomputable def e29_0 (C : Nat → Fun1) : Ev := eOp2 oIx (eVar 14) (eC (.int 1))
noncomputable def b29_1 (C : Nat → Fun1) : Sm := sSeq (sPar 8 9 (lCons (eOp2 oIx (eVar 7) (eC (.int 1))) (lCons (eTup (lCons (eOp2 oIx (eVar 3) (eC (.int 0))) (lCons (eSl (eOp2 oIx (eVar 3) (eC (.int 1))) (oNo) (oSome (eOp2 oAdd (eVar 6) (eC (.int 1))))) (lNil)))) (lNil)))) (sSeq (sSet (eCall (C 24) (lCons (eVar 5) (lCons (eIf (tOf (eOp2 oEq (eOp2 oIx (eVar 7) (eC (.int 0))) (eC (.str "program")))) (eOp2 oIx (eVar 7) (eC (.int 2))) (eOp2 oIx (eVar 7) (eC (.int 4)))) (lNil)))) (gSlot 10)) (sSeq (sSet (eCall (C 26) (lCons (eVar 5) (lCons (eVar 8) (lNil)))) (gSlot 11)) (sSeq (sSet (eOpN nTuple (lCons (eComp (iSeq (eOp2 oIx (eVar 3) (eC (.int 1)))) [14] (gSlot 14) (t29_0 C) (e29_0 C)) (lNil))) (gSlot 12)) (sSeq (sIf (tOf (eOp2 oNe (eOpN nRepr (lCons (eLst (lCons (eCall (C 11) (lCons (eVar 3) (lCons (eVar 8) (lNil)))) (lCons (eCallK (C 11) [1, 0] lNil (lCons (eVar 8) (lCons (eVar 3) (lNil)))) (lCons (eCall (C 11) (lCons (eVar 9) (lCons (eVar 8) (lNil)))) (lNil))))) (lNil))) (eOpN nRepr (lCons (eOp2 oMul (eLst (lCons (eVar 12) (lNil))) (eC (.int 3))) (lNil))))) (sRet (eC (.bl false))) (sNop)) (sIf (EV.tAnd (tOf (eOp2 oLt (eCall (C 18) (lCons (eVar 10) (lNil))) (eC (.int 41)))) (tOf (eCall (C 28) (lCons (eVar 5) (lCons (eVar 7) (lNil)))))) (sSeq (sSet (eLst (lCons (eCall (C 9) (lCons (eVar 3) (lCons (eVar 8) (lNil)))) (lCons (eCallK (C 9) [1, 0] lNil (lCons (eVar 8) (lCons (eVar 3) (lNil)))) (lCons (eCall (C 9) (lCons (eVar 9) (lCons (eVar 8) (lNil)))) (lNil))))) (gSlot 13)) (sIf (tOf (eOp2 oNe (eOpN nRepr (lCons (eVar 13) (lNil))) (eOpN nRepr (lCons (eOp2 oMul (eLst (lCons (eTup (lCons (eOp2 oIx (eVar 3) (eC (.int 0))) (lCons (eVar 10) (lNil)))) (lNil))) (eC (.int 3))) (lNil))))) (sRet (eC (.bl false))) (sNop))) (sNop))))))
noncomputable def b29_2 (C : Nat → Fun1) : Sm := sSeq (sSet (eCall (C 23) (lCons (eVar 1) (lCons (eC (.int 6)) (lNil)))) (gSlot 3)) (sSeq (sPar 4 5 (lCons (eOpN nRepr (lCons (eVar 3) (lNil))) (lCons (eCall (C 12) (lCons (eVar 3) (lNil))) (lNil)))) (sSeq (sFor (EV.iEnum (eOp2 oIx (eVar 3) (eC (.int 1)))) (gTupT (gsCons (gSlot 6) (gsCons (gSlot 7) (gsNil)))) (b29_1 C)) (sIf (tOf (eOp2 oNe (eOpN nRepr (lCons (eVar 3) (lNil))) (eVar 4))) (sRet (eC (.bl false))) (sNop))))
/-- law -/
noncomputable def m29 (C : Nat → Fun1) : Sm := sSeq (sSet (eCall (C 13) (lCons (eVar 0) (lNil))) (gSlot 1)) (sSeq (sFor (iRange1 (eC (.int 5))) (gSlot 2) (b29_2 C)) (sRet (eC (.bl true))))
/-- what is known of the top -/
structure Fx (K : PySem.W.Frag) (mg : Str → Option Value) : Prop where
  g_abs : mg "abs" = none
  g_enumerate : mg "enumerate" = none
  g_int : mg "int" = none
  g_isinstance : mg "isinstance" = none
  g_len : mg "len" = none
  g_list : mg "list" = none
  g_range : mg "range" = none
  g_repr : mg "repr" = none
  g_str : mg "str" = none
  g_sum : mg "sum" = none
  g_tuple : mg "tuple" = none
  c_MAX_NODES : ∃ t, mg "MAX_NODES" = some (.int 40 t)
  h0 : ∃ f fd, Has K mg "is_branching" (top 6) f fd
  h1 : ∃ f fd, Has K mg "walked" (top 7) f fd
  h2 : ∃ f fd, Has K mg "ways" (top 8) f fd
  h3 : ∃ f fd, Has K mg "done_in" (top 10) f fd
  h4 : ∃ f fd, Has K mg "size_of" (top 11) f fd
  h5 : ∃ f fd, Has K mg "told_items" (top 12) f fd
  h6 : ∃ f fd, Has K mg "told_sizes" (top 13) f fd
  h7 : ∃ f fd, Has K mg "all_settled" (top 14) f fd
  h8 : ∃ f fd, Has K mg "part_called" (top 15) f fd
  h9 : ∃ f fd, Has K mg "settled" (top 16) f fd
  h10 : ∃ f fd, Has K mg "names_done" (top 17) f fd
  h11 : ∃ f fd, Has K mg "uses" (top 18) f fd
  h12 : ∃ f fd, Has K mg "_law_by_name" (top 20) f fd
  h13 : ∃ f fd, Has K mg "_law_urn" (top 21) f fd
  h14 : ∃ f fd, Has K mg "_law_take" (top 22) f fd
  h15 : ∃ f fd, Has K mg "_law_pick" (top 23) f fd
  h16 : ∃ f fd, Has K mg "_law_mixed" (top 24) f fd
  h17 : ∃ f fd, Has K mg "_law_is_branch" (top 25) f fd
  h18 : ∃ f fd, Has K mg "_law_count" (top 26) f fd
  h19 : ∃ f fd, Has K mg "_law_any_die" (top 27) f fd
  h20 : ∃ f fd, Has K mg "_law_any_step" (top 28) f fd
  h21 : ∃ f fd, Has K mg "_law_any_steps" (top 29) f fd
  h22 : ∃ f fd, Has K mg "_law_names" (top 30) f fd
  h23 : ∃ f fd, Has K mg "_law_any_book" (top 31) f fd
  h24 : ∃ f fd, Has K mg "_law_settled" (top 32) f fd
  h25 : ∃ f fd, Has K mg "_law_done" (top 33) f fd
  h26 : ∃ f fd, Has K mg "_law_all_done" (top 34) f fd
  h27 : ∃ f fd, Has K mg "_law_weight" (top 35) f fd
  h28 : ∃ f fd, Has K mg "_law_is_small" (top 36) f fd
  h29 : ∃ f fd, Has K mg "law" (top 37) f fd
/-- what the defs promise -/
structure Ok (P : Program) (w : World) (K : PySem.W.Frag) (mg : Str → Option Value) (base : Heap) (k : Nat) (C : Nat → Fun1) : Prop where
  d0 : Dn P w K mg base k "is_branching" (top 6) [("step" : Str)] (C 0)
  d1 : Dn P w K mg base k "walked" (top 7) [("steps" : Str), ("most" : Str)] (C 1)
  d2 : Dn P w K mg base k "ways" (top 8) [("program" : Str)] (C 2)
  d3 : Dn P w K mg base k "done_in" (top 10) [("items" : Str), ("known" : Str)] (C 3)
  d4 : Dn P w K mg base k "size_of" (top 11) [("items" : Str), ("sizes" : Str)] (C 4)
  d5 : Dn P w K mg base k "told_items" (top 12) [("part" : Str)] (C 5)
  d6 : Dn P w K mg base k "told_sizes" (top 13) [("book" : Str)] (C 6)
  d7 : Dn P w K mg base k "all_settled" (top 14) [("book" : Str)] (C 7)
  d8 : Dn P w K mg base k "part_called" (top 15) [("book" : Str), ("name" : Str)] (C 8)
  d9 : Dn P w K mg base k "settled" (top 16) [("book" : Str), ("name" : Str)] (C 9)
  d10 : Dn P w K mg base k "names_done" (top 17) [("items" : Str)] (C 10)
  d11 : Dn P w K mg base k "uses" (top 18) [("book" : Str), ("name" : Str)] (C 11)
  d12 : Dn P w K mg base k "_law_by_name" (top 20) [("book" : Str)] (C 12)
  d13 : Dn P w K mg base k "_law_urn" (top 21) [("script" : Str)] (C 13)
  d14 : Dn P w K mg base k "_law_take" (top 22) [("urn" : Str), ("many" : Str)] (C 14)
  d15 : Dn P w K mg base k "_law_pick" (top 23) [("urn" : Str), ("some" : Str)] (C 15)
  d16 : Dn P w K mg base k "_law_mixed" (top 24) [("urn" : Str), ("some" : Str)] (C 16)
  d17 : Dn P w K mg base k "_law_is_branch" (top 25) [("step" : Str)] (C 17)
  d18 : Dn P w K mg base k "_law_count" (top 26) [("steps" : Str)] (C 18)
  d19 : Dn P w K mg base k "_law_any_die" (top 27) [("urn" : Str)] (C 19)
  d20 : Dn P w K mg base k "_law_any_step" (top 28) [("urn" : Str), ("many" : Str), ("deep" : Str), ("known" : Str)] (C 20)
  d21 : Dn P w K mg base k "_law_any_steps" (top 29) [("urn" : Str), ("many" : Str), ("deep" : Str), ("known" : Str)] (C 21)
  d22 : Dn P w K mg base k "_law_names" (top 30) [("urn" : Str), ("many" : Str)] (C 22)
  d23 : Dn P w K mg base k "_law_any_book" (top 31) [("urn" : Str), ("most" : Str)] (C 23)
  d24 : Dn P w K mg base k "_law_settled" (top 32) [("parts" : Str), ("steps" : Str)] (C 24)
  d25 : Dn P w K mg base k "_law_done" (top 33) [("part" : Str)] (C 25)
  d26 : Dn P w K mg base k "_law_all_done" (top 34) [("parts" : Str), ("name" : Str)] (C 26)
  d27 : Dn P w K mg base k "_law_weight" (top 35) [("parts" : Str), ("steps" : Str)] (C 27)
  d28 : Dn P w K mg base k "_law_is_small" (top 36) [("parts" : Str), ("part" : Str)] (C 28)
  d29 : Dn P w K mg base k "law" (top 37) [("script" : Str)] (C 29)
section
variable {P : Program} {w : World} {K : PySem.W.Frag} {mg : Str → Option Value} {base : Heap} {k : Nat} {C : Nat → Fun1}
theorem sc0 : FnScope [("step" : Str)] [("step" : Str)] (defScope (top 6)) := ⟨rfl, rfl, rfl, by decide +kernel, rfl, by decide +kernel, by decide +kernel⟩
/-- is_branching -/
theorem ok0 (T : Fx K mg) (O : Ok P w K mg base k C) : Dn P w K mg base (k + 1) "is_branching" (top 6) [("step" : Str)] (runF (m0 C) 1) := by
  obtain ⟨f, fd, h⟩ := T.h0
  refine Dn.succ h sc0 fun cdv A outer s H E hgd hr hN hpa hpo => ?_
  have hu1 := hr.u1
  have hu64 := hr.u64
  have hu70 := hr.u70
  exact mss_cons (ms_if ((mw_or (mt_not (mt_val (me_callB (c_isi) (by rfl) T.g_isinstance bo_isinstance (ma_cons (me_var (pv 0)) (ma_cons (me_ty (by rfl) T.g_tuple bo_tuple) (ma_nil)))))) (mw_or (mt_cmp (o_ne hu64) (me_callB (c_len) (by rfl) T.g_len bo_len (ma_cons (me_var (pv 0)) (ma_nil))) (me_int) (nomark _)) (mw_or1 (mt_not (mt_val (me_callB (c_isi) (by rfl) T.g_isinstance bo_isinstance (ma_cons (me_ix hu1 (me_var (pv 0)) (me_int) (fun _ _ => rfl)) (ma_cons (me_ty (by rfl) T.g_str bo_str) (ma_nil))))))))).pt) (mss_one (ms_ret (me_bl))) (mss_nil)) (mss_one (ms_ret (me_and (me_in hu1 (me_ix hu1 (me_var (pv 0)) (me_int) (fun _ _ => rfl)) (me_tup (ma_cons (me_str) (ma_cons (me_str) (ma_nil))) (many_cons (many_cons (many_nil)))) rfl) (me_and (me_callB (c_isi) (by rfl) T.g_isinstance bo_isinstance (ma_cons (me_ix hu1 (me_var (pv 0)) (me_int) (fun _ _ => rfl)) (ma_cons (me_ty (by rfl) T.g_tuple bo_tuple) (ma_nil)))) (me_one (me_callB (c_isi) (by rfl) T.g_isinstance bo_isinstance (ma_cons (me_ix hu1 (me_var (pv 0)) (me_int) (fun _ _ => rfl)) (ma_cons (me_ty (by rfl) T.g_tuple bo_tuple) (ma_nil)))))))))
theorem sc1 : FnScope [("steps" : Str), ("most" : Str), ("waiting" : Str), ("found" : Str), ("way" : Str), ("step" : Str), ("nest" : Str), ("inner" : Str), ("place" : Str), ("own" : Str)] [("steps" : Str), ("most" : Str)] (defScope (top 7)) := ⟨rfl, rfl, rfl, by decide +kernel, rfl, by decide +kernel, by decide +kernel⟩
/-- walked -/
theorem ok1 (T : Fx K mg) (O : Ok P w K mg base k C) : Dn P w K mg base (k + 1) "walked" (top 7) [("steps" : Str), ("most" : Str)] (runF (m1 C) 10) := by
  obtain ⟨f, fd, h⟩ := T.h1
  refine Dn.succ h sc1 fun cdv A outer s H E hgd hr hN hpa hpo => ?_
  have hu1 := hr.u1
  have hu64 := hr.u64
  have hu70 := hr.u70
  exact mss_cons (ms_par (i := 2) (j := 3) rfl hN rfl rfl (by decide) rfl rfl (ma_cons (me_rev (me_compE (own := [(("place" : Str), 8), (("step" : Str), 5)]) rfl hN (by rfl) T.g_enumerate (ma_cons (me_var (pv 0)) (ma_nil)) ⟨blkOk_by (own := [(("place" : Str), 8), (("step" : Str), 5)]) (by rfl), fun s H C cl fp => mgc_tup rfl (mgcs_cons (mgc_of (pg_name hN rfl (by first | exact Or.inl rfl | exact Or.inr rfl)) (by decide)) (mgcs_cons (mgc_of (pg_name hN rfl (by first | exact Or.inl rfl | exact Or.inr rfl)) (by decide)) (mgcs_nil))) (tgMany_cons (tgMany_cons (tgMany_nil))), fun s H C cl fp => mts_nil, fun s H C cl fp => me_tup (ma_cons (me_tup (ma_cons (me_var (pv 8)) (ma_nil)) (many_cons (many_nil))) (ma_cons (me_var (pv 5)) (ma_cons (me_int) (ma_nil)))) (many_cons (many_cons (many_cons (many_nil))))⟩)) (ma_cons (me_lst (ma_nil) (many_nil)) (ma_nil))) rfl) (mss_cons (ms_while hpo ((mw_and (mt_cmp (o_ne hu64) (me_var (pv 2)) (me_lst (ma_nil) (many_nil)) (nomark _)) (mw_and1 ((mw_or (mt_isNone (me_var (pv 1))) (mw_or1 (mt_cmp o_lt (me_callB (c_len) (by rfl) T.g_len bo_len (ma_cons (me_var (pv 3)) (ma_nil))) (me_var (pv 1)) (nomark _)))).pt))).pt) (mss_cons (ms_asg (me_pop (me_var (pv 2))) (mg_tup rfl (mgs_cons (mg_name hN rfl (by first | exact Or.inl rfl | exact Or.inr rfl)) (mgs_cons (mg_name hN rfl (by first | exact Or.inl rfl | exact Or.inr rfl)) (mgs_cons (mg_name hN rfl (by first | exact Or.inl rfl | exact Or.inr rfl)) (mgs_nil)))) (tgMany_cons (tgMany_cons (tgMany_cons (tgMany_nil)))))) (mss_cons (ms_drop (me_append (me_var (pv 3)) (ma_cons (me_tup (ma_cons (me_var (pv 4)) (ma_cons (me_var (pv 5)) (ma_cons (me_var (pv 6)) (ma_nil)))) (many_cons (many_cons (many_cons (many_nil))))) (ma_nil)))) (mss_one (ms_if (mt_val (me_callD O.d0 hgd hr (by rfl) hpa (ma_cons (me_var (pv 5)) (ma_nil)) (many_cons (many_nil)) rfl (fun _ _ _ _ _ _ us hl => match us, hl with | [_], _ => rfl))) (mss_cons (ms_compE (i := 7) (own := [(("place" : Str), 8), (("own" : Str), 9)]) rfl hN rfl rfl (sw_true rfl rfl rfl (by decide +kernel)) (by rfl) T.g_enumerate (ma_cons (me_ix hu1 (me_var (pv 5)) (me_int) (fun _ _ => rfl)) (ma_nil)) ⟨blkOk_by (own := [(("place" : Str), 8), (("own" : Str), 9)]) (by rfl), fun s H C cl fp => mgc_tup rfl (mgcs_cons (mgc_of (pg_name hN rfl (by first | exact Or.inl rfl | exact Or.inr rfl)) (by decide)) (mgcs_cons (mgc_of (pg_name hN rfl (by first | exact Or.inl rfl | exact Or.inr rfl)) (by decide)) (mgcs_nil))) (tgMany_cons (tgMany_cons (tgMany_nil))), fun s H C cl fp => mts_nil, fun s H C cl fp => me_tup (ma_cons (me_op o_add (me_var (pv 4)) (me_tup (ma_cons (me_int) (ma_cons (me_var (pv 8)) (ma_nil))) (many_cons (many_cons (many_nil))))) (ma_cons (me_var (pv 9)) (ma_cons (me_op o_add (me_var (pv 6)) (me_int)) (ma_nil)))) (many_cons (many_cons (many_cons (many_nil))))⟩) (mss_cons (ms_set (i := 7) hN rfl (by first | exact Or.inl rfl | exact Or.inr rfl) (me_op o_add (me_var (pv 7)) (me_compE (own := [(("place" : Str), 8), (("own" : Str), 9)]) rfl hN (by rfl) T.g_enumerate (ma_cons (me_ix hu1 (me_var (pv 5)) (me_int) (fun _ _ => rfl)) (ma_nil)) ⟨blkOk_by (own := [(("place" : Str), 8), (("own" : Str), 9)]) (by rfl), fun s H C cl fp => mgc_tup rfl (mgcs_cons (mgc_of (pg_name hN rfl (by first | exact Or.inl rfl | exact Or.inr rfl)) (by decide)) (mgcs_cons (mgc_of (pg_name hN rfl (by first | exact Or.inl rfl | exact Or.inr rfl)) (by decide)) (mgcs_nil))) (tgMany_cons (tgMany_cons (tgMany_nil))), fun s H C cl fp => mts_nil, fun s H C cl fp => me_tup (ma_cons (me_op o_add (me_var (pv 4)) (me_tup (ma_cons (me_int) (ma_cons (me_var (pv 8)) (ma_nil))) (many_cons (many_cons (many_nil))))) (ma_cons (me_var (pv 9)) (ma_cons (me_op o_add (me_var (pv 6)) (me_int)) (ma_nil)))) (many_cons (many_cons (many_cons (many_nil))))⟩))) (mss_one (ms_drop (me_extend (me_var (pv 2)) (ma_cons (me_rev (me_var (pv 7))) (ma_nil))))))) (mss_nil)))))) (mss_one (ms_ret (me_var (pv 3)))))
theorem sc2 : FnScope [("program" : Str), ("way" : Str), ("step" : Str), ("nest" : Str)] [("program" : Str)] (defScope (top 8)) := ⟨rfl, rfl, rfl, by decide +kernel, rfl, by decide +kernel, by decide +kernel⟩
/-- ways -/
theorem ok2 (T : Fx K mg) (O : Ok P w K mg base k C) : Dn P w K mg base (k + 1) "ways" (top 8) [("program" : Str)] (runF (m2 C) 4) := by
  obtain ⟨f, fd, h⟩ := T.h2
  refine Dn.succ h sc2 fun cdv A outer s H E hgd hr hN hpa hpo => ?_
  have hu1 := hr.u1
  have hu64 := hr.u64
  have hu70 := hr.u70
  exact mss_one (ms_ret (me_callTy (c_tuple) (by rfl) T.g_tuple bo_tuple (ma_cons (me_comp (own := [(("way" : Str), 1), (("step" : Str), 2), (("nest" : Str), 3)]) rfl hN (me_callD O.d1 hgd hr (by rfl) hpa (ma_cons (me_ix hu1 (me_var (pv 0)) (me_int) (fun _ _ => rfl)) (ma_cons (me_non) (ma_nil))) (many_cons (many_cons (many_nil))) rfl (fun _ _ _ _ _ _ us hl => match us, hl with | [_, _], _ => rfl)) ⟨blkOk_by (own := [(("way" : Str), 1), (("step" : Str), 2), (("nest" : Str), 3)]) (by rfl), fun s H C cl fp => mgc_tup rfl (mgcs_cons (mgc_of (pg_name hN rfl (by first | exact Or.inl rfl | exact Or.inr rfl)) (by decide)) (mgcs_cons (mgc_of (pg_name hN rfl (by first | exact Or.inl rfl | exact Or.inr rfl)) (by decide)) (mgcs_cons (mgc_of (pg_name hN rfl (by first | exact Or.inl rfl | exact Or.inr rfl)) (by decide)) (mgcs_nil)))) (tgMany_cons (tgMany_cons (tgMany_cons (tgMany_nil)))), fun s H C cl fp => mts_nil, fun s H C cl fp => me_var (pv 1)⟩) (ma_nil))))
theorem sc3 : FnScope [("items" : Str), ("known" : Str), ("found" : Str), ("item" : Str)] [("items" : Str), ("known" : Str)] (defScope (top 10)) := ⟨rfl, rfl, rfl, by decide +kernel, rfl, by decide +kernel, by decide +kernel⟩
/-- done_in -/
theorem ok3 (T : Fx K mg) (O : Ok P w K mg base k C) : Dn P w K mg base (k + 1) "done_in" (top 10) [("items" : Str), ("known" : Str)] (runF (m3 C) 4) := by
  obtain ⟨f, fd, h⟩ := T.h3
  refine Dn.succ h sc3 fun cdv A outer s H E hgd hr hN hpa hpo => ?_
  have hu1 := hr.u1
  have hu64 := hr.u64
  have hu70 := hr.u70
  exact mss_cons (ms_set (i := 2) hN rfl (by first | exact Or.inl rfl | exact Or.inr rfl) (me_lst (ma_nil) (many_nil))) (mss_cons (ms_forA hpo rfl (me_var (pv 0)) (mg_name hN rfl (by first | exact Or.inl rfl | exact Or.inr rfl)) (mss_one (ms_if (mt_cmp (o_eq hu64) (me_ix hu1 (me_var (pv 3)) (me_int) (fun _ _ => rfl)) (me_str) (nomark _)) (mss_one (ms_drop (me_extend (me_var (pv 2)) (ma_cons (me_ix hu1 (me_var (pv 1)) (me_ix hu1 (me_var (pv 3)) (me_int) (fun _ _ => rfl)) (fun _ _ => rfl)) (ma_nil))))) (mss_one (ms_drop (me_append (me_var (pv 2)) (ma_cons (me_var (pv 3)) (ma_nil)))))))) (mss_one (ms_ret (me_callTy (c_tuple) (by rfl) T.g_tuple bo_tuple (ma_cons (me_var (pv 2)) (ma_nil))))))
theorem sc4 : FnScope [("items" : Str), ("sizes" : Str), ("plain" : Str), ("item" : Str), ("name" : Str)] [("items" : Str), ("sizes" : Str)] (defScope (top 11)) := ⟨rfl, rfl, rfl, by decide +kernel, rfl, by decide +kernel, by decide +kernel⟩
/-- size_of -/
theorem ok4 (T : Fx K mg) (O : Ok P w K mg base k C) : Dn P w K mg base (k + 1) "size_of" (top 11) [("items" : Str), ("sizes" : Str)] (runF (m4 C) 5) := by
  obtain ⟨f, fd, h⟩ := T.h4
  refine Dn.succ h sc4 fun cdv A outer s H E hgd hr hN hpa hpo => ?_
  have hu1 := hr.u1
  have hu64 := hr.u64
  have hu70 := hr.u70
  exact mss_cons (ms_set (i := 2) hN rfl (by first | exact Or.inl rfl | exact Or.inr rfl) (me_callTy (c_tuple) (by rfl) T.g_tuple bo_tuple (ma_cons (me_comp (own := [(("item" : Str), 3)]) rfl hN (me_var (pv 0)) ⟨blkOk_by (own := [(("item" : Str), 3)]) (by rfl), fun s H C cl fp => mgc_of (pg_name hN rfl (by first | exact Or.inl rfl | exact Or.inr rfl)) (by decide), fun s H C cl fp => mts_one (mt_cmp (o_ne hu64) (me_ix hu1 (me_var (pv 3)) (me_int) (fun _ _ => rfl)) (me_str) (nomark _)), fun s H C cl fp => me_var (pv 3)⟩) (ma_nil)))) (mss_one (ms_ret (me_op o_add (me_callB (c_len) (by rfl) T.g_len bo_len (ma_cons (me_callD O.d2 hgd hr (by rfl) hpa (ma_cons (me_tup (ma_cons (me_tup (ma_cons (me_str) (ma_nil)) (many_cons (many_nil))) (ma_cons (me_var (pv 2)) (ma_nil))) (many_cons (many_cons (many_nil)))) (ma_nil)) (many_cons (many_nil)) rfl (fun _ _ _ _ _ _ us hl => match us, hl with | [_], _ => rfl)) (ma_nil))) (me_callB (c_sum rfl) (by rfl) T.g_sum bo_sum (ma_cons (me_comp (own := [(("name" : Str), 4)]) rfl hN (me_callD O.d10 hgd hr (by rfl) hpa (ma_cons (me_var (pv 0)) (ma_nil)) (many_cons (many_nil)) rfl (fun _ _ _ _ _ _ us hl => match us, hl with | [_], _ => rfl)) ⟨blkOk_by (own := [(("name" : Str), 4)]) (by rfl), fun s H C cl fp => mgc_of (pg_name hN rfl (by first | exact Or.inl rfl | exact Or.inr rfl)) (by decide), fun s H C cl fp => mts_nil, fun s H C cl fp => me_op o_add (me_int) (me_ix hu1 (me_var (pv 1)) (me_var (pv 4)) (fun _ _ => rfl))⟩) (ma_nil))))))
theorem sc5 : FnScope [("part" : Str)] [("part" : Str)] (defScope (top 12)) := ⟨rfl, rfl, rfl, by decide +kernel, rfl, by decide +kernel, by decide +kernel⟩
/-- told_items -/
theorem ok5 (T : Fx K mg) (O : Ok P w K mg base k C) : Dn P w K mg base (k + 1) "told_items" (top 12) [("part" : Str)] (runF (m5 C) 1) := by
  obtain ⟨f, fd, h⟩ := T.h5
  refine Dn.succ h sc5 fun cdv A outer s H E hgd hr hN hpa hpo => ?_
  have hu1 := hr.u1
  have hu64 := hr.u64
  have hu70 := hr.u70
  exact mss_one (ms_ret (me_if (mt_cmp (o_eq hu64) (me_ix hu1 (me_var (pv 0)) (me_int) (fun _ _ => rfl)) (me_str) (nomark _)) (me_ix hu1 (me_var (pv 0)) (me_int) (fun _ _ => rfl)) (me_ix hu1 (me_var (pv 0)) (me_int) (fun _ _ => rfl))))
theorem sc6 : FnScope [("book" : Str), ("sizes" : Str), ("part" : Str)] [("book" : Str)] (defScope (top 13)) := ⟨rfl, rfl, rfl, by decide +kernel, rfl, by decide +kernel, by decide +kernel⟩
/-- told_sizes -/
theorem ok6 (T : Fx K mg) (O : Ok P w K mg base k C) : Dn P w K mg base (k + 1) "told_sizes" (top 13) [("book" : Str)] (runF (m6 C) 3) := by
  obtain ⟨f, fd, h⟩ := T.h6
  refine Dn.succ h sc6 fun cdv A outer s H E hgd hr hN hpa hpo => ?_
  have hu1 := hr.u1
  have hu64 := hr.u64
  have hu70 := hr.u70
  exact mss_cons (ms_set (i := 1) hN rfl (by first | exact Or.inl rfl | exact Or.inr rfl) (me_newK)) (mss_cons (ms_forA hpo rfl (me_ix hu1 (me_var (pv 0)) (me_int) (fun _ _ => rfl)) (mg_name hN rfl (by first | exact Or.inl rfl | exact Or.inr rfl)) (mss_one (ms_put hu1 (me_var (pv 1)) (me_ix hu1 (me_var (pv 2)) (me_int) (fun _ _ => rfl)) (me_callD O.d4 hgd hr (by rfl) hpa (ma_cons (me_callD O.d5 hgd hr (by rfl) hpa (ma_cons (me_var (pv 2)) (ma_nil)) (many_cons (many_nil)) rfl (fun _ _ _ _ _ _ us hl => match us, hl with | [_], _ => rfl)) (ma_cons (me_var (pv 1)) (ma_nil))) (many_cons (many_cons (many_nil))) rfl (fun _ _ _ _ _ _ us hl => match us, hl with | [_, _], _ => rfl)) rfl))) (mss_one (ms_ret (me_var (pv 1)))))
theorem sc7 : FnScope [("book" : Str), ("known" : Str), ("sizes" : Str), ("part" : Str)] [("book" : Str)] (defScope (top 14)) := ⟨rfl, rfl, rfl, by decide +kernel, rfl, by decide +kernel, by decide +kernel⟩
/-- all_settled -/
theorem ok7 (T : Fx K mg) (O : Ok P w K mg base k C) : Dn P w K mg base (k + 1) "all_settled" (top 14) [("book" : Str)] (runF (m7 C) 4) := by
  obtain ⟨f, fd, h⟩ := T.h7
  refine Dn.succ h sc7 fun cdv A outer s H E hgd hr hN hpa hpo => ?_
  have hu1 := hr.u1
  have hu64 := hr.u64
  have hu70 := hr.u70
  exact mss_cons (ms_par (i := 1) (j := 2) rfl hN rfl rfl (by decide) rfl rfl (ma_cons (me_newK) (ma_cons (me_callD O.d6 hgd hr (by rfl) hpa (ma_cons (me_var (pv 0)) (ma_nil)) (many_cons (many_nil)) rfl (fun _ _ _ _ _ _ us hl => match us, hl with | [_], _ => rfl)) (ma_nil))) rfl) (mss_cons (ms_forA hpo rfl (me_ix hu1 (me_var (pv 0)) (me_int) (fun _ _ => rfl)) (mg_name hN rfl (by first | exact Or.inl rfl | exact Or.inr rfl)) (mss_one (ms_put hu1 (me_var (pv 1)) (me_ix hu1 (me_var (pv 3)) (me_int) (fun _ _ => rfl)) (me_if (mt_cmp o_le (me_ix hu1 (me_var (pv 2)) (me_ix hu1 (me_var (pv 3)) (me_int) (fun _ _ => rfl)) (fun _ _ => rfl)) (me_gint T.c_MAX_NODES (by rfl)) (nomark _)) (me_callD O.d3 hgd hr (by rfl) hpa (ma_cons (me_callD O.d5 hgd hr (by rfl) hpa (ma_cons (me_var (pv 3)) (ma_nil)) (many_cons (many_nil)) rfl (fun _ _ _ _ _ _ us hl => match us, hl with | [_], _ => rfl)) (ma_cons (me_var (pv 1)) (ma_nil))) (many_cons (many_cons (many_nil))) rfl (fun _ _ _ _ _ _ us hl => match us, hl with | [_, _], _ => rfl)) (me_tup (ma_nil) (many_nil))) rfl))) (mss_one (ms_ret (me_var (pv 1)))))
theorem sc8 : FnScope [("book" : Str), ("name" : Str), ("part" : Str)] [("book" : Str), ("name" : Str)] (defScope (top 15)) := ⟨rfl, rfl, rfl, by decide +kernel, rfl, by decide +kernel, by decide +kernel⟩
/-- part_called -/
theorem ok8 (T : Fx K mg) (O : Ok P w K mg base k C) : Dn P w K mg base (k + 1) "part_called" (top 15) [("book" : Str), ("name" : Str)] (runF (m8 C) 3) := by
  obtain ⟨f, fd, h⟩ := T.h8
  refine Dn.succ h sc8 fun cdv A outer s H E hgd hr hN hpa hpo => ?_
  have hu1 := hr.u1
  have hu64 := hr.u64
  have hu70 := hr.u70
  exact mss_cons (ms_forA hpo rfl (me_ix hu1 (me_var (pv 0)) (me_int) (fun _ _ => rfl)) (mg_name hN rfl (by first | exact Or.inl rfl | exact Or.inr rfl)) (mss_one (ms_if ((mw_and (mt_val (me_callB (c_isi) (by rfl) T.g_isinstance bo_isinstance (ma_cons (me_var (pv 1)) (ma_cons (me_ty (by rfl) T.g_str bo_str) (ma_nil))))) (mw_and1 (mt_cmp (o_eq hu64) (me_ix hu1 (me_var (pv 2)) (me_int) (fun _ _ => rfl)) (me_var (pv 1)) (nomark _)))).pt) (mss_one (ms_ret (me_var (pv 2)))) (mss_nil)))) (mss_one (ms_bad))
theorem sc9 : FnScope [("book" : Str), ("name" : Str), ("part" : Str)] [("book" : Str), ("name" : Str)] (defScope (top 16)) := ⟨rfl, rfl, rfl, by decide +kernel, rfl, by decide +kernel, by decide +kernel⟩
/-- settled -/
theorem ok9 (T : Fx K mg) (O : Ok P w K mg base k C) : Dn P w K mg base (k + 1) "settled" (top 16) [("book" : Str), ("name" : Str)] (runF (m9 C) 3) := by
  obtain ⟨f, fd, h⟩ := T.h9
  refine Dn.succ h sc9 fun cdv A outer s H E hgd hr hN hpa hpo => ?_
  have hu1 := hr.u1
  have hu64 := hr.u64
  have hu70 := hr.u70
  exact mss_cons (ms_set (i := 2) hN rfl (by first | exact Or.inl rfl | exact Or.inr rfl) (me_callD O.d8 hgd hr (by rfl) hpa (ma_cons (me_var (pv 0)) (ma_cons (me_var (pv 1)) (ma_nil))) (many_cons (many_cons (many_nil))) rfl (fun _ _ _ _ _ _ us hl => match us, hl with | [_, _], _ => rfl))) (mss_cons (ms_if (mt_cmp o_gt (me_ix hu1 (me_callD O.d6 hgd hr (by rfl) hpa (ma_cons (me_var (pv 0)) (ma_nil)) (many_cons (many_nil)) rfl (fun _ _ _ _ _ _ us hl => match us, hl with | [_], _ => rfl)) (me_ix hu1 (me_var (pv 2)) (me_int) (fun _ _ => rfl)) (fun _ _ => rfl)) (me_gint T.c_MAX_NODES (by rfl)) (nomark _)) (mss_one (ms_bad)) (mss_nil)) (mss_one (ms_ret (me_tup (ma_cons (me_ix hu1 (me_var (pv 0)) (me_int) (fun _ _ => rfl)) (ma_cons (me_ix hu1 (me_callD O.d7 hgd hr (by rfl) hpa (ma_cons (me_var (pv 0)) (ma_nil)) (many_cons (many_nil)) rfl (fun _ _ _ _ _ _ us hl => match us, hl with | [_], _ => rfl)) (me_ix hu1 (me_var (pv 2)) (me_int) (fun _ _ => rfl)) (fun _ _ => rfl)) (ma_nil))) (many_cons (many_cons (many_nil)))))))
theorem sc10 : FnScope [("items" : Str), ("item" : Str)] [("items" : Str)] (defScope (top 17)) := ⟨rfl, rfl, rfl, by decide +kernel, rfl, by decide +kernel, by decide +kernel⟩
/-- names_done -/
theorem ok10 (T : Fx K mg) (O : Ok P w K mg base k C) : Dn P w K mg base (k + 1) "names_done" (top 17) [("items" : Str)] (runF (m10 C) 2) := by
  obtain ⟨f, fd, h⟩ := T.h10
  refine Dn.succ h sc10 fun cdv A outer s H E hgd hr hN hpa hpo => ?_
  have hu1 := hr.u1
  have hu64 := hr.u64
  have hu70 := hr.u70
  exact mss_one (ms_ret (me_comp (own := [(("item" : Str), 1)]) rfl hN (me_var (pv 0)) ⟨blkOk_by (own := [(("item" : Str), 1)]) (by rfl), fun s H C cl fp => mgc_of (pg_name hN rfl (by first | exact Or.inl rfl | exact Or.inr rfl)) (by decide), fun s H C cl fp => mts_one (mt_cmp (o_eq hu64) (me_ix hu1 (me_var (pv 1)) (me_int) (fun _ _ => rfl)) (me_str) (nomark _)), fun s H C cl fp => me_ix hu1 (me_var (pv 1)) (me_int) (fun _ _ => rfl)⟩))
theorem sc11 : FnScope [("book" : Str), ("name" : Str), ("part" : Str), ("known" : Str), ("own" : Str), ("found" : Str), ("other" : Str), ("further" : Str)] [("book" : Str), ("name" : Str)] (defScope (top 18)) := ⟨rfl, rfl, rfl, by decide +kernel, rfl, by decide +kernel, by decide +kernel⟩
/-- uses -/
theorem ok11 (T : Fx K mg) (O : Ok P w K mg base k C) : Dn P w K mg base (k + 1) "uses" (top 18) [("book" : Str), ("name" : Str)] (runF (m11 C) 8) := by
  obtain ⟨f, fd, h⟩ := T.h11
  refine Dn.succ h sc11 fun cdv A outer s H E hgd hr hN hpa hpo => ?_
  have hu1 := hr.u1
  have hu64 := hr.u64
  have hu70 := hr.u70
  exact mss_cons (ms_asg (me_tup (ma_cons (me_callD O.d8 hgd hr (by rfl) hpa (ma_cons (me_var (pv 0)) (ma_cons (me_var (pv 1)) (ma_nil))) (many_cons (many_cons (many_nil))) rfl (fun _ _ _ _ _ _ us hl => match us, hl with | [_, _], _ => rfl)) (ma_cons (me_newK) (ma_nil))) (many_cons (many_cons (many_nil)))) (mg_tup rfl (mgs_cons (mg_name hN rfl (by first | exact Or.inl rfl | exact Or.inr rfl)) (mgs_cons (mg_name hN rfl (by first | exact Or.inl rfl | exact Or.inr rfl)) (mgs_nil))) (tgMany_cons (tgMany_cons (tgMany_nil))))) (mss_cons (ms_forA hpo rfl (me_ix hu1 (me_var (pv 0)) (me_int) (fun _ _ => rfl)) (mg_name hN rfl (by first | exact Or.inl rfl | exact Or.inr rfl)) (mss_cons (ms_set (i := 5) hN rfl (by first | exact Or.inl rfl | exact Or.inr rfl) (me_newK)) (mss_cons (ms_forA hpo rfl (me_callD O.d10 hgd hr (by rfl) hpa (ma_cons (me_if (mt_cmp (o_eq hu64) (me_ix hu1 (me_var (pv 4)) (me_int) (fun _ _ => rfl)) (me_str) (nomark _)) (me_ix hu1 (me_var (pv 4)) (me_int) (fun _ _ => rfl)) (me_op o_add (me_ix hu1 (me_var (pv 4)) (me_int) (fun _ _ => rfl)) (me_ix hu1 (me_var (pv 4)) (me_int) (fun _ _ => rfl)))) (ma_nil)) (many_cons (many_nil)) rfl (fun _ _ _ _ _ _ us hl => match us, hl with | [_], _ => rfl)) (mg_name hN rfl (by first | exact Or.inl rfl | exact Or.inr rfl)) (mss_cons (ms_put hu1 (me_var (pv 5)) (me_var (pv 6)) (me_bl) rfl) (mss_one (ms_forA hpo rfl (me_ix hu1 (me_var (pv 3)) (me_var (pv 6)) (fun _ _ => rfl)) (mg_name hN rfl (by first | exact Or.inl rfl | exact Or.inr rfl)) (mss_one (ms_put hu1 (me_var (pv 5)) (me_var (pv 7)) (me_bl) rfl)))))) (mss_one (ms_put hu1 (me_var (pv 3)) (me_ix hu1 (me_var (pv 4)) (me_int) (fun _ _ => rfl)) (me_var (pv 5)) rfl))))) (mss_one (ms_ret (me_callTy (c_tuple) (by rfl) T.g_tuple bo_tuple (ma_cons (me_comp (own := [(("own" : Str), 4)]) rfl hN (me_ix hu1 (me_var (pv 0)) (me_int) (fun _ _ => rfl)) ⟨blkOk_by (own := [(("own" : Str), 4)]) (by rfl), fun s H C cl fp => mgc_of (pg_name hN rfl (by first | exact Or.inl rfl | exact Or.inr rfl)) (by decide), fun s H C cl fp => mts_one (mt_in hu1 (me_ix hu1 (me_var (pv 4)) (me_int) (fun _ _ => rfl)) (me_ix hu1 (me_var (pv 3)) (me_ix hu1 (me_var (pv 2)) (me_int) (fun _ _ => rfl)) (fun _ _ => rfl)) rfl), fun s H C cl fp => me_ix hu1 (me_var (pv 4)) (me_int) (fun _ _ => rfl)⟩) (ma_nil))))))
theorem sc12 : FnScope [("book" : Str), ("found" : Str), ("part" : Str)] [("book" : Str)] (defScope (top 20)) := ⟨rfl, rfl, rfl, by decide +kernel, rfl, by decide +kernel, by decide +kernel⟩
/-- _law_by_name -/
theorem ok12 (T : Fx K mg) (O : Ok P w K mg base k C) : Dn P w K mg base (k + 1) "_law_by_name" (top 20) [("book" : Str)] (runF (m12 C) 3) := by
  obtain ⟨f, fd, h⟩ := T.h12
  refine Dn.succ h sc12 fun cdv A outer s H E hgd hr hN hpa hpo => ?_
  have hu1 := hr.u1
  have hu64 := hr.u64
  have hu70 := hr.u70
  exact mss_cons (ms_set (i := 1) hN rfl (by first | exact Or.inl rfl | exact Or.inr rfl) (me_newK)) (mss_cons (ms_forA hpo rfl (me_ix hu1 (me_var (pv 0)) (me_int) (fun _ _ => rfl)) (mg_name hN rfl (by first | exact Or.inl rfl | exact Or.inr rfl)) (mss_one (ms_put hu1 (me_var (pv 1)) (me_ix hu1 (me_var (pv 2)) (me_int) (fun _ _ => rfl)) (me_var (pv 2)) rfl))) (mss_one (ms_ret (me_var (pv 1)))))
theorem sc13 : FnScope [("script" : Str), ("urn" : Str), ("cell" : Str), ("own" : Str)] [("script" : Str)] (defScope (top 21)) := ⟨rfl, rfl, rfl, by decide +kernel, rfl, by decide +kernel, by decide +kernel⟩
/-- _law_urn -/
theorem ok13 (T : Fx K mg) (O : Ok P w K mg base k C) : Dn P w K mg base (k + 1) "_law_urn" (top 21) [("script" : Str)] (runF (m13 C) 4) := by
  obtain ⟨f, fd, h⟩ := T.h13
  refine Dn.succ h sc13 fun cdv A outer s H E hgd hr hN hpa hpo => ?_
  have hu1 := hr.u1
  have hu64 := hr.u64
  have hu70 := hr.u70
  exact mss_cons (ms_set (i := 1) hN rfl (by first | exact Or.inl rfl | exact Or.inr rfl) (me_disp (mpp_str (me_lst (ma_nil) (many_nil)) (mpp_str (me_op o_add (me_int) (me_callB (c_len) (by rfl) T.g_len bo_len (ma_cons (me_sl (me_var (pv 0)) (mo_none) (mo_some (me_int))) (ma_nil)))) (mpp_str (me_int) (mpp_nil)))) rfl rfl (by simp) (by decide) (by decide))) (mss_cons (ms_forA hpo rfl (me_sl (me_var (pv 0)) (mo_none) (mo_some (me_int))) (mg_name hN rfl (by first | exact Or.inl rfl | exact Or.inr rfl)) (mss_cons (ms_if (mt_cmp o_ge (me_callB (c_abs) (by rfl) T.g_abs bo_abs (ma_cons (me_var (pv 2)) (ma_nil))) (me_op o_pow (me_int) (me_int)) (nomark _)) (mss_one (ms_put hu1 (me_var (pv 1)) (me_str) (me_op o_add (me_lst (ma_cons (me_callB (c_abs) (by rfl) T.g_abs bo_abs (ma_cons (me_var (pv 2)) (ma_nil))) (ma_nil)) (many_cons (many_nil))) (me_ix hu1 (me_var (pv 1)) (me_str) (fun _ _ => rfl))) rfl)) (mss_nil)) (mss_cons (ms_set (i := 3) hN rfl (by first | exact Or.inl rfl | exact Or.inr rfl) (me_op o_add (me_op o_mul (me_int) (me_callB (c_abs) (by rfl) T.g_abs bo_abs (ma_cons (me_var (pv 2)) (ma_nil)))) (me_callTy (c_int) (by rfl) T.g_int bo_int (ma_cons (me_cmp o_lt (me_var (pv 2)) (me_int) (nomark _)) (ma_nil))))) (mss_one (ms_put hu1 (me_var (pv 1)) (me_str) (me_op o_mod (me_callTy (c_int) (by rfl) T.g_int bo_int (ma_cons (me_op o_add (me_op o_mul (me_op o_add (me_op o_add (me_ix hu1 (me_var (pv 1)) (me_str) (fun _ _ => rfl)) (me_var (pv 3))) (me_int)) (me_int)) (me_int)) (ma_nil))) (me_int)) rfl))))) (mss_one (ms_ret (me_var (pv 1)))))
theorem sc14 : FnScope [("urn" : Str), ("many" : Str), ("great" : Str), ("state" : Str)] [("urn" : Str), ("many" : Str)] (defScope (top 22)) := ⟨rfl, rfl, rfl, by decide +kernel, rfl, by decide +kernel, by decide +kernel⟩
/-- _law_take -/
theorem ok14 (T : Fx K mg) (O : Ok P w K mg base k C) : Dn P w K mg base (k + 1) "_law_take" (top 22) [("urn" : Str), ("many" : Str)] (runF (m14 C) 4) := by
  obtain ⟨f, fd, h⟩ := T.h14
  refine Dn.succ h sc14 fun cdv A outer s H E hgd hr hN hpa hpo => ?_
  have hu1 := hr.u1
  have hu64 := hr.u64
  have hu70 := hr.u70
  exact mss_cons (ms_if (mt_cmp o_lt (me_var (pv 1)) (me_int) (nomark _)) (mss_one (ms_ret (me_int))) (mss_nil)) (mss_cons (ms_if (mt_cmp (o_ne hu64) (me_ix hu1 (me_var (pv 0)) (me_str) (fun _ _ => rfl)) (me_lst (ma_nil) (many_nil)) (nomark _)) (mss_cons (ms_set (i := 2) hN rfl (by first | exact Or.inl rfl | exact Or.inr rfl) (me_pop (me_ix hu1 (me_var (pv 0)) (me_str) (fun _ _ => rfl)))) (mss_cons (ms_if (mt_cmp o_ge (me_var (pv 2)) (me_var (pv 1)) (nomark _)) (mss_one (ms_drop (me_append (me_ix hu1 (me_var (pv 0)) (me_str) (fun _ _ => rfl)) (ma_cons (me_op o_floordiv (me_var (pv 2)) (me_var (pv 1))) (ma_nil))))) (mss_nil)) (mss_one (ms_ret (me_op o_mod (me_callTy (c_int) (by rfl) T.g_int bo_int (ma_cons (me_var (pv 2)) (ma_nil))) (me_var (pv 1))))))) (mss_nil)) (mss_cons (ms_put hu1 (me_var (pv 0)) (me_str) (me_op o_add (me_ix hu1 (me_var (pv 0)) (me_str) (fun _ _ => rfl)) (me_int)) rfl) (mss_cons (ms_set (i := 3) hN rfl (by first | exact Or.inl rfl | exact Or.inr rfl) (me_op o_mod (me_callTy (c_int) (by rfl) T.g_int bo_int (ma_cons (me_op o_add (me_op o_mul (me_ix hu1 (me_var (pv 0)) (me_str) (fun _ _ => rfl)) (me_int)) (me_op o_mul (me_int) (me_ix hu1 (me_var (pv 0)) (me_str) (fun _ _ => rfl)))) (ma_nil))) (me_int))) (mss_cons (ms_put hu1 (me_var (pv 0)) (me_str) (me_var (pv 3)) rfl) (mss_one (ms_ret (me_op o_mod (me_callTy (c_int) (by rfl) T.g_int bo_int (ma_cons (me_op o_floordiv (me_op o_mod (me_callTy (c_int) (by rfl) T.g_int bo_int (ma_cons (me_op o_add (me_op o_mul (me_var (pv 3)) (me_var (pv 3))) (me_op o_mul (me_int) (me_var (pv 3)))) (ma_nil))) (me_int)) (me_int)) (ma_nil))) (me_var (pv 1)))))))))
theorem sc15 : FnScope [("urn" : Str), ("some" : Str)] [("urn" : Str), ("some" : Str)] (defScope (top 23)) := ⟨rfl, rfl, rfl, by decide +kernel, rfl, by decide +kernel, by decide +kernel⟩
/-- _law_pick -/
theorem ok15 (T : Fx K mg) (O : Ok P w K mg base k C) : Dn P w K mg base (k + 1) "_law_pick" (top 23) [("urn" : Str), ("some" : Str)] (runF (m15 C) 2) := by
  obtain ⟨f, fd, h⟩ := T.h15
  refine Dn.succ h sc15 fun cdv A outer s H E hgd hr hN hpa hpo => ?_
  have hu1 := hr.u1
  have hu64 := hr.u64
  have hu70 := hr.u70
  exact mss_one (ms_ret (me_ix hu1 (me_var (pv 1)) (me_callD O.d14 hgd hr (by rfl) hpa (ma_cons (me_var (pv 0)) (ma_cons (me_callB (c_len) (by rfl) T.g_len bo_len (ma_cons (me_var (pv 1)) (ma_nil))) (ma_nil))) (many_cons (many_cons (many_nil))) rfl (fun _ _ _ _ _ _ us hl => match us, hl with | [_, _], _ => rfl)) (fun _ _ => rfl)))
theorem sc16 : FnScope [("urn" : Str), ("some" : Str), ("left" : Str), ("found" : Str)] [("urn" : Str), ("some" : Str)] (defScope (top 24)) := ⟨rfl, rfl, rfl, by decide +kernel, rfl, by decide +kernel, by decide +kernel⟩
/-- _law_mixed -/
theorem ok16 (T : Fx K mg) (O : Ok P w K mg base k C) : Dn P w K mg base (k + 1) "_law_mixed" (top 24) [("urn" : Str), ("some" : Str)] (runF (m16 C) 4) := by
  obtain ⟨f, fd, h⟩ := T.h16
  refine Dn.succ h sc16 fun cdv A outer s H E hgd hr hN hpa hpo => ?_
  have hu1 := hr.u1
  have hu64 := hr.u64
  have hu70 := hr.u70
  exact mss_cons (ms_par (i := 2) (j := 3) rfl hN rfl rfl (by decide) rfl rfl (ma_cons (me_callTy (c_list) (by rfl) T.g_list bo_list (ma_cons (me_var (pv 1)) (ma_nil))) (ma_cons (me_lst (ma_nil) (many_nil)) (ma_nil))) rfl) (mss_cons (ms_while hpo (mt_cmp (o_ne hu64) (me_var (pv 2)) (me_lst (ma_nil) (many_nil)) (nomark _)) (mss_one (ms_drop (me_append (me_var (pv 3)) (ma_cons (me_popAt (me_var (pv 2)) (ma_cons (me_callD O.d14 hgd hr (by rfl) hpa (ma_cons (me_var (pv 0)) (ma_cons (me_callB (c_len) (by rfl) T.g_len bo_len (ma_cons (me_var (pv 2)) (ma_nil))) (ma_nil))) (many_cons (many_cons (many_nil))) rfl (fun _ _ _ _ _ _ us hl => match us, hl with | [_, _], _ => rfl)) (ma_nil))) (ma_nil)))))) (mss_one (ms_ret (me_var (pv 3)))))
theorem sc17 : FnScope [("step" : Str)] [("step" : Str)] (defScope (top 25)) := ⟨rfl, rfl, rfl, by decide +kernel, rfl, by decide +kernel, by decide +kernel⟩
/-- _law_is_branch -/
theorem ok17 (T : Fx K mg) (O : Ok P w K mg base k C) : Dn P w K mg base (k + 1) "_law_is_branch" (top 25) [("step" : Str)] (runF (m17 C) 1) := by
  obtain ⟨f, fd, h⟩ := T.h17
  refine Dn.succ h sc17 fun cdv A outer s H E hgd hr hN hpa hpo => ?_
  have hu1 := hr.u1
  have hu64 := hr.u64
  have hu70 := hr.u70
  exact mss_cons (ms_if ((mw_or (mt_not (mt_val (me_callB (c_isi) (by rfl) T.g_isinstance bo_isinstance (ma_cons (me_var (pv 0)) (ma_cons (me_ty (by rfl) T.g_tuple bo_tuple) (ma_nil)))))) (mw_or (mt_cmp (o_ne hu64) (me_callB (c_len) (by rfl) T.g_len bo_len (ma_cons (me_var (pv 0)) (ma_nil))) (me_int) (nomark _)) (mw_or1 (mt_not (mt_val (me_callB (c_isi) (by rfl) T.g_isinstance bo_isinstance (ma_cons (me_ix hu1 (me_var (pv 0)) (me_int) (fun _ _ => rfl)) (ma_cons (me_ty (by rfl) T.g_str bo_str) (ma_nil))))))))).pt) (mss_one (ms_ret (me_bl))) (mss_nil)) (mss_one (ms_ret (me_and (me_in hu1 (me_ix hu1 (me_var (pv 0)) (me_int) (fun _ _ => rfl)) (me_tup (ma_cons (me_str) (ma_cons (me_str) (ma_nil))) (many_cons (many_cons (many_nil)))) rfl) (me_and (me_callB (c_isi) (by rfl) T.g_isinstance bo_isinstance (ma_cons (me_ix hu1 (me_var (pv 0)) (me_int) (fun _ _ => rfl)) (ma_cons (me_ty (by rfl) T.g_tuple bo_tuple) (ma_nil)))) (me_one (me_callB (c_isi) (by rfl) T.g_isinstance bo_isinstance (ma_cons (me_ix hu1 (me_var (pv 0)) (me_int) (fun _ _ => rfl)) (ma_cons (me_ty (by rfl) T.g_tuple bo_tuple) (ma_nil)))))))))
theorem sc18 : FnScope [("steps" : Str), ("found" : Str), ("step" : Str)] [("steps" : Str)] (defScope (top 26)) := ⟨rfl, rfl, rfl, by decide +kernel, rfl, by decide +kernel, by decide +kernel⟩
/-- _law_count -/
theorem ok18 (T : Fx K mg) (O : Ok P w K mg base k C) : Dn P w K mg base (k + 1) "_law_count" (top 26) [("steps" : Str)] (runF (m18 C) 3) := by
  obtain ⟨f, fd, h⟩ := T.h18
  refine Dn.succ h sc18 fun cdv A outer s H E hgd hr hN hpa hpo => ?_
  have hu1 := hr.u1
  have hu64 := hr.u64
  have hu70 := hr.u70
  exact mss_cons (ms_set (i := 1) hN rfl (by first | exact Or.inl rfl | exact Or.inr rfl) (me_int)) (mss_cons (ms_forA hpo rfl (me_var (pv 0)) (mg_name hN rfl (by first | exact Or.inl rfl | exact Or.inr rfl)) (mss_one (ms_set (i := 1) hN rfl (by first | exact Or.inl rfl | exact Or.inr rfl) (me_op o_add (me_op o_add (me_var (pv 1)) (me_int)) (me_if (mt_val (me_callD O.d17 hgd hr (by rfl) hpa (ma_cons (me_var (pv 2)) (ma_nil)) (many_cons (many_nil)) rfl (fun _ _ _ _ _ _ us hl => match us, hl with | [_], _ => rfl))) (me_op o_add (me_callD O.d18 hgd hr (by rfl) hpa (ma_cons (me_ix hu1 (me_var (pv 2)) (me_int) (fun _ _ => rfl)) (ma_nil)) (many_cons (many_nil)) rfl (fun _ _ _ _ _ _ us hl => match us, hl with | [_], _ => rfl)) (me_callD O.d18 hgd hr (by rfl) hpa (ma_cons (me_ix hu1 (me_var (pv 2)) (me_int) (fun _ _ => rfl)) (ma_nil)) (many_cons (many_nil)) rfl (fun _ _ _ _ _ _ us hl => match us, hl with | [_], _ => rfl))) (me_int)))))) (mss_one (ms_ret (me_var (pv 1)))))
theorem sc19 : FnScope [("urn" : Str), ("some" : Str)] [("urn" : Str)] (defScope (top 27)) := ⟨rfl, rfl, rfl, by decide +kernel, rfl, by decide +kernel, by decide +kernel⟩
/-- _law_any_die -/
theorem ok19 (T : Fx K mg) (O : Ok P w K mg base k C) : Dn P w K mg base (k + 1) "_law_any_die" (top 27) [("urn" : Str)] (runF (m19 C) 2) := by
  obtain ⟨f, fd, h⟩ := T.h19
  refine Dn.succ h sc19 fun cdv A outer s H E hgd hr hN hpa hpo => ?_
  have hu1 := hr.u1
  have hu64 := hr.u64
  have hu70 := hr.u70
  exact mss_cons (ms_set (i := 1) hN rfl (by first | exact Or.inl rfl | exact Or.inr rfl) (me_lst (ma_cons (me_tup (ma_cons (me_str) (ma_cons (me_tup (ma_cons (me_int) (ma_cons (me_int) (ma_nil))) (many_cons (many_cons (many_nil)))) (ma_nil))) (many_cons (many_cons (many_nil)))) (ma_cons (me_tup (ma_cons (me_str) (ma_cons (me_tup (ma_cons (me_int) (ma_cons (me_int) (ma_nil))) (many_cons (many_cons (many_nil)))) (ma_nil))) (many_cons (many_cons (many_nil)))) (ma_cons (me_tup (ma_cons (me_str) (ma_cons (me_tup (ma_cons (me_tup (ma_cons (me_int) (ma_cons (me_tup (ma_cons (me_int) (ma_cons (me_int) (ma_nil))) (many_cons (many_cons (many_nil)))) (ma_nil))) (many_cons (many_cons (many_nil)))) (ma_cons (me_tup (ma_cons (me_int) (ma_cons (me_tup (ma_cons (me_int) (ma_cons (me_int) (ma_nil))) (many_cons (many_cons (many_nil)))) (ma_nil))) (many_cons (many_cons (many_nil)))) (ma_nil))) (many_cons (many_cons (many_nil)))) (ma_nil))) (many_cons (many_cons (many_nil)))) (ma_cons (me_tup (ma_cons (me_str) (ma_cons (me_tup (ma_cons (me_tup (ma_cons (me_int) (ma_cons (me_tup (ma_cons (me_int) (ma_cons (me_int) (ma_nil))) (many_cons (many_cons (many_nil)))) (ma_nil))) (many_cons (many_cons (many_nil)))) (ma_nil)) (many_cons (many_nil))) (ma_nil))) (many_cons (many_cons (many_nil)))) (ma_nil))))) (many_cons (many_cons (many_cons (many_cons (many_nil))))))) (mss_one (ms_ret (me_callD O.d15 hgd hr (by rfl) hpa (ma_cons (me_var (pv 0)) (ma_cons (me_op o_add (me_var (pv 1)) (me_lst (ma_cons (me_tup (ma_cons (me_str) (ma_cons (me_tup (ma_cons (me_tup (ma_cons (me_int) (ma_cons (me_tup (ma_cons (me_int) (ma_cons (me_int) (ma_nil))) (many_cons (many_cons (many_nil)))) (ma_nil))) (many_cons (many_cons (many_nil)))) (ma_cons (me_tup (ma_cons (me_int) (ma_cons (me_tup (ma_cons (me_int) (ma_cons (me_int) (ma_nil))) (many_cons (many_cons (many_nil)))) (ma_nil))) (many_cons (many_cons (many_nil)))) (ma_nil))) (many_cons (many_cons (many_nil)))) (ma_nil))) (many_cons (many_cons (many_nil)))) (ma_cons (me_tup (ma_cons (me_str) (ma_cons (me_tup (ma_cons (me_tup (ma_cons (me_int) (ma_cons (me_tup (ma_cons (me_int) (ma_cons (me_int) (ma_nil))) (many_cons (many_cons (many_nil)))) (ma_nil))) (many_cons (many_cons (many_nil)))) (ma_cons (me_tup (ma_cons (me_int) (ma_cons (me_tup (ma_cons (me_int) (ma_cons (me_int) (ma_nil))) (many_cons (many_cons (many_nil)))) (ma_nil))) (many_cons (many_cons (many_nil)))) (ma_nil))) (many_cons (many_cons (many_nil)))) (ma_nil))) (many_cons (many_cons (many_nil)))) (ma_nil))) (many_cons (many_cons (many_nil))))) (ma_nil))) (many_cons (many_cons (many_nil))) rfl (fun _ _ _ _ _ _ us hl => match us, hl with | [_, _], _ => rfl))))
theorem sc20 : FnScope [("urn" : Str), ("many" : Str), ("deep" : Str), ("known" : Str), ("counter" : Str), ("way" : Str), ("test" : Str), ("yes" : Str), ("no" : Str)] [("urn" : Str), ("many" : Str), ("deep" : Str), ("known" : Str)] (defScope (top 28)) := ⟨rfl, rfl, rfl, by decide +kernel, rfl, by decide +kernel, by decide +kernel⟩
/-- _law_any_step -/
theorem ok20 (T : Fx K mg) (O : Ok P w K mg base k C) : Dn P w K mg base (k + 1) "_law_any_step" (top 28) [("urn" : Str), ("many" : Str), ("deep" : Str), ("known" : Str)] (runF (m20 C) 9) := by
  obtain ⟨f, fd, h⟩ := T.h20
  refine Dn.succ h sc20 fun cdv A outer s H E hgd hr hN hpa hpo => ?_
  have hu1 := hr.u1
  have hu64 := hr.u64
  have hu70 := hr.u70
  exact mss_cons (ms_par (i := 4) (j := 5) rfl hN rfl rfl (by decide) rfl rfl (ma_cons (me_callD O.d14 hgd hr (by rfl) hpa (ma_cons (me_var (pv 0)) (ma_cons (me_var (pv 1)) (ma_nil))) (many_cons (many_cons (many_nil))) rfl (fun _ _ _ _ _ _ us hl => match us, hl with | [_, _], _ => rfl)) (ma_cons (me_callD O.d14 hgd hr (by rfl) hpa (ma_cons (me_var (pv 0)) (ma_cons (me_int) (ma_nil))) (many_cons (many_cons (many_nil))) rfl (fun _ _ _ _ _ _ us hl => match us, hl with | [_, _], _ => rfl)) (ma_nil))) rfl) (mss_cons (ms_if (mt_cmp (o_eq hu64) (me_var (pv 5)) (me_int) (nomark _)) (mss_one (ms_ret (me_tup (ma_cons (me_str) (ma_cons (me_var (pv 4)) (ma_cons (me_callD O.d15 hgd hr (by rfl) hpa (ma_cons (me_var (pv 0)) (ma_cons (me_lst (ma_cons (me_int) (ma_cons (me_int) (ma_cons (me_int) (ma_cons (me_int) (ma_nil))))) (many_cons (many_cons (many_cons (many_cons (many_nil)))))) (ma_nil))) (many_cons (many_cons (many_nil))) rfl (fun _ _ _ _ _ _ us hl => match us, hl with | [_, _], _ => rfl)) (ma_nil)))) (many_cons (many_cons (many_cons (many_nil))))))) (mss_nil)) (mss_cons (ms_if (mt_cmp (o_eq hu64) (me_var (pv 5)) (me_int) (nomark _)) (mss_one (ms_ret (me_tup (ma_cons (me_str) (ma_cons (me_var (pv 4)) (ma_cons (me_callD O.d15 hgd hr (by rfl) hpa (ma_cons (me_var (pv 0)) (ma_cons (me_lst (ma_cons (me_int) (ma_cons (me_int) (ma_cons (me_int) (ma_nil)))) (many_cons (many_cons (many_cons (many_nil))))) (ma_nil))) (many_cons (many_cons (many_nil))) rfl (fun _ _ _ _ _ _ us hl => match us, hl with | [_, _], _ => rfl)) (ma_nil)))) (many_cons (many_cons (many_cons (many_nil))))))) (mss_nil)) (mss_cons (ms_if (mt_cmp (o_eq hu64) (me_var (pv 5)) (me_int) (nomark _)) (mss_one (ms_ret (me_tup (ma_cons (me_str) (ma_cons (me_var (pv 4)) (ma_nil))) (many_cons (many_cons (many_nil)))))) (mss_nil)) (mss_cons (ms_if (mt_cmp (o_eq hu64) (me_var (pv 5)) (me_int) (nomark _)) (mss_one (ms_ret (me_tup (ma_cons (me_str) (ma_cons (me_var (pv 4)) (ma_cons (me_callD O.d19 hgd hr (by rfl) hpa (ma_cons (me_var (pv 0)) (ma_nil)) (many_cons (many_nil)) rfl (fun _ _ _ _ _ _ us hl => match us, hl with | [_], _ => rfl)) (ma_nil)))) (many_cons (many_cons (many_cons (many_nil))))))) (mss_nil)) (mss_cons (ms_if (mt_cmp (o_eq hu64) (me_var (pv 5)) (me_int) (nomark _)) (mss_one (ms_ret (me_tup (ma_cons (me_str) (ma_cons (me_var (pv 4)) (ma_cons (me_callD O.d19 hgd hr (by rfl) hpa (ma_cons (me_var (pv 0)) (ma_nil)) (many_cons (many_nil)) rfl (fun _ _ _ _ _ _ us hl => match us, hl with | [_], _ => rfl)) (ma_cons (me_callD O.d14 hgd hr (by rfl) hpa (ma_cons (me_var (pv 0)) (ma_cons (me_var (pv 1)) (ma_nil))) (many_cons (many_cons (many_nil))) rfl (fun _ _ _ _ _ _ us hl => match us, hl with | [_, _], _ => rfl)) (ma_nil))))) (many_cons (many_cons (many_cons (many_cons (many_nil)))))))) (mss_nil)) (mss_cons (ms_set (i := 6) hN rfl (by first | exact Or.inl rfl | exact Or.inr rfl) (me_tup (ma_cons (me_callD O.d14 hgd hr (by rfl) hpa (ma_cons (me_var (pv 0)) (ma_cons (me_var (pv 1)) (ma_nil))) (many_cons (many_cons (many_nil))) rfl (fun _ _ _ _ _ _ us hl => match us, hl with | [_, _], _ => rfl)) (ma_cons (me_callD O.d15 hgd hr (by rfl) hpa (ma_cons (me_var (pv 0)) (ma_cons (me_lst (ma_cons (me_str) (ma_cons (me_str) (ma_nil))) (many_cons (many_cons (many_nil)))) (ma_nil))) (many_cons (many_cons (many_nil))) rfl (fun _ _ _ _ _ _ us hl => match us, hl with | [_, _], _ => rfl)) (ma_cons (me_op o_add (me_int) (me_callD O.d14 hgd hr (by rfl) hpa (ma_cons (me_var (pv 0)) (ma_cons (me_int) (ma_nil))) (many_cons (many_cons (many_nil))) rfl (fun _ _ _ _ _ _ us hl => match us, hl with | [_, _], _ => rfl))) (ma_nil)))) (many_cons (many_cons (many_cons (many_nil)))))) (mss_cons (ms_if ((mw_or (mt_cmp (o_eq hu64) (me_var (pv 5)) (me_int) (nomark _)) (mw_or1 ((mw_and (mt_cmp (o_eq hu64) (me_var (pv 2)) (me_int) (nomark _)) (mw_and1 (mt_cmp o_lt (me_var (pv 5)) (me_int) (nomark _)))).pt))).pt) (mss_one (ms_ret (me_tup (ma_cons (me_str) (ma_cons (me_var (pv 6)) (ma_nil))) (many_cons (many_cons (many_nil)))))) (mss_nil)) (mss_cons (ms_if (mt_cmp o_lt (me_var (pv 5)) (me_int) (nomark _)) (mss_cons (ms_par (i := 7) (j := 8) rfl hN rfl rfl (by decide) rfl rfl (ma_cons (me_callD O.d21 hgd hr (by rfl) hpa (ma_cons (me_var (pv 0)) (ma_cons (me_var (pv 1)) (ma_cons (me_op o_sub (me_var (pv 2)) (me_int)) (ma_cons (me_lst (ma_nil) (many_nil)) (ma_nil))))) (many_cons (many_cons (many_cons (many_cons (many_nil))))) rfl (fun _ _ _ _ _ _ us hl => match us, hl with | [_, _, _, _], _ => rfl)) (ma_cons (me_callD O.d21 hgd hr (by rfl) hpa (ma_cons (me_var (pv 0)) (ma_cons (me_var (pv 1)) (ma_cons (me_op o_sub (me_var (pv 2)) (me_int)) (ma_cons (me_lst (ma_nil) (many_nil)) (ma_nil))))) (many_cons (many_cons (many_cons (many_cons (many_nil))))) rfl (fun _ _ _ _ _ _ us hl => match us, hl with | [_, _, _, _], _ => rfl)) (ma_nil))) rfl) (mss_one (ms_ret (me_if (mt_cmp (o_eq hu64) (me_var (pv 5)) (me_int) (nomark _)) (me_tup (ma_cons (me_str) (ma_cons (me_var (pv 6)) (ma_cons (me_var (pv 7)) (ma_cons (me_var (pv 8)) (ma_nil))))) (many_cons (many_cons (many_cons (many_cons (many_nil)))))) (me_tup (ma_cons (me_str) (ma_cons (me_callD O.d15 hgd hr (by rfl) hpa (ma_cons (me_var (pv 0)) (ma_cons (me_lst (ma_cons (me_tup (ma_cons (me_int) (ma_cons (me_int) (ma_nil))) (many_cons (many_cons (many_nil)))) (ma_cons (me_tup (ma_cons (me_int) (ma_cons (me_int) (ma_nil))) (many_cons (many_cons (many_nil)))) (ma_cons (me_tup (ma_cons (me_int) (ma_cons (me_int) (ma_nil))) (many_cons (many_cons (many_nil)))) (ma_nil)))) (many_cons (many_cons (many_cons (many_nil))))) (ma_nil))) (many_cons (many_cons (many_nil))) rfl (fun _ _ _ _ _ _ us hl => match us, hl with | [_, _], _ => rfl)) (ma_cons (me_var (pv 7)) (ma_cons (me_var (pv 8)) (ma_nil))))) (many_cons (many_cons (many_cons (many_cons (many_nil)))))))))) (mss_nil)) (mss_one (ms_ret (me_if (mt_cmp (o_ne hu64) (me_var (pv 3)) (me_lst (ma_nil) (many_nil)) (nomark _)) (me_tup (ma_cons (me_str) (ma_cons (me_callD O.d15 hgd hr (by rfl) hpa (ma_cons (me_var (pv 0)) (ma_cons (me_var (pv 3)) (ma_nil))) (many_cons (many_cons (many_nil))) rfl (fun _ _ _ _ _ _ us hl => match us, hl with | [_, _], _ => rfl)) (ma_nil))) (many_cons (many_cons (many_nil)))) (me_tup (ma_cons (me_str) (ma_cons (me_var (pv 4)) (ma_nil))) (many_cons (many_cons (many_nil)))))))))))))))
theorem sc21 : FnScope [("urn" : Str), ("many" : Str), ("deep" : Str), ("known" : Str), ("turn" : Str)] [("urn" : Str), ("many" : Str), ("deep" : Str), ("known" : Str)] (defScope (top 29)) := ⟨rfl, rfl, rfl, by decide +kernel, rfl, by decide +kernel, by decide +kernel⟩
/-- _law_any_steps -/
theorem ok21 (T : Fx K mg) (O : Ok P w K mg base k C) : Dn P w K mg base (k + 1) "_law_any_steps" (top 29) [("urn" : Str), ("many" : Str), ("deep" : Str), ("known" : Str)] (runF (m21 C) 5) := by
  obtain ⟨f, fd, h⟩ := T.h21
  refine Dn.succ h sc21 fun cdv A outer s H E hgd hr hN hpa hpo => ?_
  have hu1 := hr.u1
  have hu64 := hr.u64
  have hu70 := hr.u70
  exact mss_one (ms_ret (me_callTy (c_tuple) (by rfl) T.g_tuple bo_tuple (ma_cons (me_compR (own := [(("turn" : Str), 4)]) rfl hN (by rfl) T.g_range (ma_cons (me_callD O.d15 hgd hr (by rfl) hpa (ma_cons (me_var (pv 0)) (ma_cons (me_lst (ma_cons (me_int) (ma_cons (me_int) (ma_cons (me_int) (ma_cons (me_int) (ma_cons (me_int) (ma_nil)))))) (many_cons (many_cons (many_cons (many_cons (many_cons (many_nil))))))) (ma_nil))) (many_cons (many_cons (many_nil))) rfl (fun _ _ _ _ _ _ us hl => match us, hl with | [_, _], _ => rfl)) (ma_nil)) ⟨blkOk_by (own := [(("turn" : Str), 4)]) (by rfl), fun s H C cl fp => mgc_of (pg_name hN rfl (by first | exact Or.inl rfl | exact Or.inr rfl)) (by decide), fun s H C cl fp => mts_nil, fun s H C cl fp => me_callD O.d20 hgd hr (by rfl) pass_blk (ma_cons (me_var (pv 0)) (ma_cons (me_var (pv 1)) (ma_cons (me_var (pv 2)) (ma_cons (me_var (pv 3)) (ma_nil))))) (many_cons (many_cons (many_cons (many_cons (many_nil))))) rfl (fun _ _ _ _ _ _ us hl => match us, hl with | [_, _, _, _], _ => rfl)⟩) (ma_nil))))
theorem sc22 : FnScope [("urn" : Str), ("many" : Str), ("pool" : Str)] [("urn" : Str), ("many" : Str)] (defScope (top 30)) := ⟨rfl, rfl, rfl, by decide +kernel, rfl, by decide +kernel, by decide +kernel⟩
/-- _law_names -/
theorem ok22 (T : Fx K mg) (O : Ok P w K mg base k C) : Dn P w K mg base (k + 1) "_law_names" (top 30) [("urn" : Str), ("many" : Str)] (runF (m22 C) 3) := by
  obtain ⟨f, fd, h⟩ := T.h22
  refine Dn.succ h sc22 fun cdv A outer s H E hgd hr hN hpa hpo => ?_
  have hu1 := hr.u1
  have hu64 := hr.u64
  have hu70 := hr.u70
  exact mss_cons (ms_set (i := 2) hN rfl (by first | exact Or.inl rfl | exact Or.inr rfl) (me_lst (ma_cons (me_str) (ma_cons (me_str) (ma_cons (me_str) (ma_cons (me_str) (ma_cons (me_str) (ma_cons (me_str) (ma_cons (me_str) (ma_cons (me_str) (ma_cons (me_str) (ma_cons (me_str) (ma_cons (me_str) (ma_cons (me_str) (ma_cons (me_str) (ma_cons (me_str) (ma_cons (me_str) (ma_cons (me_str) (ma_nil))))))))))))))))) (many_cons (many_cons (many_cons (many_cons (many_cons (many_cons (many_cons (many_cons (many_cons (many_cons (many_cons (many_cons (many_cons (many_cons (many_cons (many_cons (many_nil))))))))))))))))))) (mss_cons (ms_set (i := 2) hN rfl (by first | exact Or.inl rfl | exact Or.inr rfl) (me_op o_add (me_var (pv 2)) (me_lst (ma_cons (me_str) (ma_cons (me_str) (ma_cons (me_str) (ma_cons (me_str) (ma_cons (me_str) (ma_cons (me_str) (ma_cons (me_str) (ma_cons (me_str) (ma_cons (me_str) (ma_nil)))))))))) (many_cons (many_cons (many_cons (many_cons (many_cons (many_cons (many_cons (many_cons (many_cons (many_nil))))))))))))) (mss_one (ms_ret (me_sl (me_callD O.d16 hgd hr (by rfl) hpa (ma_cons (me_var (pv 0)) (ma_cons (me_var (pv 2)) (ma_nil))) (many_cons (many_cons (many_nil))) rfl (fun _ _ _ _ _ _ us hl => match us, hl with | [_, _], _ => rfl)) (mo_none) (mo_some (me_var (pv 1)))))))
theorem sc23 : FnScope [("urn" : Str), ("most" : Str), ("many" : Str), ("names" : Str), ("called" : Str), ("parts" : Str), ("known" : Str), ("name" : Str), ("steps" : Str), ("test" : Str), ("told" : Str), ("weights" : Str), ("place" : Str)] [("urn" : Str), ("most" : Str)] (defScope (top 31)) := ⟨rfl, rfl, rfl, by decide +kernel, rfl, by decide +kernel, by decide +kernel⟩
/-- _law_any_book -/
theorem ok23 (T : Fx K mg) (O : Ok P w K mg base k C) : Dn P w K mg base (k + 1) "_law_any_book" (top 31) [("urn" : Str), ("most" : Str)] (runF (m23 C) 13) := by
  obtain ⟨f, fd, h⟩ := T.h23
  refine Dn.succ h sc23 fun cdv A outer s H E hgd hr hN hpa hpo => ?_
  have hu1 := hr.u1
  have hu64 := hr.u64
  have hu70 := hr.u70
  exact mss_cons (ms_set (i := 2) hN rfl (by first | exact Or.inl rfl | exact Or.inr rfl) (me_op o_add (me_int) (me_callD O.d14 hgd hr (by rfl) hpa (ma_cons (me_var (pv 0)) (ma_cons (me_int) (ma_nil))) (many_cons (many_cons (many_nil))) rfl (fun _ _ _ _ _ _ us hl => match us, hl with | [_, _], _ => rfl)))) (mss_cons (ms_set (i := 3) hN rfl (by first | exact Or.inl rfl | exact Or.inr rfl) (me_callTy (c_tuple) (by rfl) T.g_tuple bo_tuple (ma_cons (me_callD O.d22 hgd hr (by rfl) hpa (ma_cons (me_var (pv 0)) (ma_cons (me_var (pv 2)) (ma_nil))) (many_cons (many_cons (many_nil))) rfl (fun _ _ _ _ _ _ us hl => match us, hl with | [_, _], _ => rfl)) (ma_nil)))) (mss_cons (ms_par3 (i := 4) (j := 5) (l := 6) rfl hN rfl rfl rfl (by decide) (by decide) (by decide) rfl rfl rfl (ma_cons (me_callD O.d22 hgd hr (by rfl) hpa (ma_cons (me_var (pv 0)) (ma_cons (me_var (pv 1)) (ma_nil))) (many_cons (many_cons (many_nil))) rfl (fun _ _ _ _ _ _ us hl => match us, hl with | [_, _], _ => rfl)) (ma_cons (me_lst (ma_nil) (many_nil)) (ma_cons (me_lst (ma_nil) (many_nil)) (ma_nil)))) rfl) (mss_cons (ms_forA hpo rfl (me_sl (me_var (pv 4)) (mo_none) (mo_some (me_callD O.d14 hgd hr (by rfl) hpa (ma_cons (me_var (pv 0)) (ma_cons (me_op o_add (me_var (pv 1)) (me_int)) (ma_nil))) (many_cons (many_cons (many_nil))) rfl (fun _ _ _ _ _ _ us hl => match us, hl with | [_, _], _ => rfl)))) (mg_name hN rfl (by first | exact Or.inl rfl | exact Or.inr rfl)) (mss_cons (ms_set (i := 8) hN rfl (by first | exact Or.inl rfl | exact Or.inr rfl) (me_callD O.d21 hgd hr (by rfl) hpa (ma_cons (me_var (pv 0)) (ma_cons (me_var (pv 2)) (ma_cons (me_int) (ma_cons (me_var (pv 6)) (ma_nil))))) (many_cons (many_cons (many_cons (many_cons (many_nil))))) rfl (fun _ _ _ _ _ _ us hl => match us, hl with | [_, _, _, _], _ => rfl))) (mss_cons (ms_if (mt_cmp (o_eq hu64) (me_callD O.d14 hgd hr (by rfl) hpa (ma_cons (me_var (pv 0)) (ma_cons (me_int) (ma_nil))) (many_cons (many_cons (many_nil))) rfl (fun _ _ _ _ _ _ us hl => match us, hl with | [_, _], _ => rfl)) (me_int) (nomark _)) (mss_one (ms_drop (me_append (me_var (pv 5)) (ma_cons (me_tup (ma_cons (me_str) (ma_cons (me_var (pv 7)) (ma_cons (me_var (pv 8)) (ma_nil)))) (many_cons (many_cons (many_cons (many_nil))))) (ma_nil))))) (mss_cons (ms_set (i := 9) hN rfl (by first | exact Or.inl rfl | exact Or.inr rfl) (me_tup (ma_cons (me_callD O.d14 hgd hr (by rfl) hpa (ma_cons (me_var (pv 0)) (ma_cons (me_var (pv 2)) (ma_nil))) (many_cons (many_cons (many_nil))) rfl (fun _ _ _ _ _ _ us hl => match us, hl with | [_, _], _ => rfl)) (ma_cons (me_callD O.d15 hgd hr (by rfl) hpa (ma_cons (me_var (pv 0)) (ma_cons (me_lst (ma_cons (me_str) (ma_cons (me_str) (ma_nil))) (many_cons (many_cons (many_nil)))) (ma_nil))) (many_cons (many_cons (many_nil))) rfl (fun _ _ _ _ _ _ us hl => match us, hl with | [_, _], _ => rfl)) (ma_cons (me_op o_add (me_int) (me_callD O.d14 hgd hr (by rfl) hpa (ma_cons (me_var (pv 0)) (ma_cons (me_int) (ma_nil))) (many_cons (many_cons (many_nil))) rfl (fun _ _ _ _ _ _ us hl => match us, hl with | [_, _], _ => rfl))) (ma_nil)))) (many_cons (many_cons (many_cons (many_nil)))))) (mss_cons (ms_set (i := 10) hN rfl (by first | exact Or.inl rfl | exact Or.inr rfl) (me_callD O.d21 hgd hr (by rfl) hpa (ma_cons (me_var (pv 0)) (ma_cons (me_var (pv 2)) (ma_cons (me_int) (ma_cons (me_var (pv 6)) (ma_nil))))) (many_cons (many_cons (many_cons (many_cons (many_nil))))) rfl (fun _ _ _ _ _ _ us hl => match us, hl with | [_, _, _, _], _ => rfl))) (mss_cons (ms_set (i := 11) hN rfl (by first | exact Or.inl rfl | exact Or.inr rfl) (me_callTy (c_tuple) (by rfl) T.g_tuple bo_tuple (ma_cons (me_compR (own := [(("place" : Str), 12)]) rfl hN (by rfl) T.g_range (ma_cons (me_var (pv 2)) (ma_nil)) ⟨blkOk_by (own := [(("place" : Str), 12)]) (by rfl), fun s H C cl fp => mgc_of (pg_name hN rfl (by first | exact Or.inl rfl | exact Or.inr rfl)) (by decide), fun s H C cl fp => mts_nil, fun s H C cl fp => me_callD O.d15 hgd hr (by rfl) pass_blk (ma_cons (me_var (pv 0)) (ma_cons (me_lst (ma_cons (me_tup (ma_cons (me_int) (ma_cons (me_int) (ma_nil))) (many_cons (many_cons (many_nil)))) (ma_cons (me_tup (ma_cons (me_int) (ma_cons (me_int) (ma_nil))) (many_cons (many_cons (many_nil)))) (ma_cons (me_tup (ma_cons (me_int) (ma_cons (me_int) (ma_nil))) (many_cons (many_cons (many_nil)))) (ma_cons (me_tup (ma_cons (me_int) (ma_cons (me_int) (ma_nil))) (many_cons (many_cons (many_nil)))) (ma_nil))))) (many_cons (many_cons (many_cons (many_cons (many_nil)))))) (ma_nil))) (many_cons (many_cons (many_nil))) rfl (fun _ _ _ _ _ _ us hl => match us, hl with | [_, _], _ => rfl)⟩) (ma_nil)))) (mss_one (ms_drop (me_append (me_var (pv 5)) (ma_cons (me_tup (ma_cons (me_str) (ma_cons (me_var (pv 7)) (ma_cons (me_var (pv 9)) (ma_cons (me_var (pv 8)) (ma_cons (me_var (pv 10)) (ma_cons (me_var (pv 11)) (ma_nil))))))) (many_cons (many_cons (many_cons (many_cons (many_cons (many_cons (many_nil)))))))) (ma_nil))))))))) (mss_one (ms_drop (me_append (me_var (pv 6)) (ma_cons (me_var (pv 7)) (ma_nil)))))))) (mss_one (ms_ret (me_tup (ma_cons (me_var (pv 3)) (ma_cons (me_callTy (c_tuple) (by rfl) T.g_tuple bo_tuple (ma_cons (me_var (pv 5)) (ma_nil))) (ma_nil))) (many_cons (many_cons (many_nil)))))))))
theorem sc24 : FnScope [("parts" : Str), ("steps" : Str), ("found" : Str), ("step" : Str), ("part" : Str)] [("parts" : Str), ("steps" : Str)] (defScope (top 32)) := ⟨rfl, rfl, rfl, by decide +kernel, rfl, by decide +kernel, by decide +kernel⟩
/-- _law_settled -/
theorem ok24 (T : Fx K mg) (O : Ok P w K mg base k C) : Dn P w K mg base (k + 1) "_law_settled" (top 32) [("parts" : Str), ("steps" : Str)] (runF (m24 C) 5) := by
  obtain ⟨f, fd, h⟩ := T.h24
  refine Dn.succ h sc24 fun cdv A outer s H E hgd hr hN hpa hpo => ?_
  have hu1 := hr.u1
  have hu64 := hr.u64
  have hu70 := hr.u70
  exact mss_cons (ms_set (i := 2) hN rfl (by first | exact Or.inl rfl | exact Or.inr rfl) (me_tup (ma_nil) (many_nil))) (mss_cons (ms_forA hpo rfl (me_var (pv 1)) (mg_name hN rfl (by first | exact Or.inl rfl | exact Or.inr rfl)) (mss_one (ms_if (mt_cmp (o_eq hu64) (me_ix hu1 (me_var (pv 3)) (me_int) (fun _ _ => rfl)) (me_str) (nomark _)) (mss_cons (ms_set (i := 4) hN rfl (by first | exact Or.inl rfl | exact Or.inr rfl) (me_ix hu1 (me_var (pv 0)) (me_ix hu1 (me_var (pv 3)) (me_int) (fun _ _ => rfl)) (fun _ _ => rfl))) (mss_one (ms_set (i := 2) hN rfl (by first | exact Or.inl rfl | exact Or.inr rfl) (me_op o_add (me_var (pv 2)) (me_callD O.d24 hgd hr (by rfl) hpa (ma_cons (me_var (pv 0)) (ma_cons (me_if (mt_cmp (o_eq hu64) (me_ix hu1 (me_var (pv 4)) (me_int) (fun _ _ => rfl)) (me_str) (nomark _)) (me_ix hu1 (me_var (pv 4)) (me_int) (fun _ _ => rfl)) (me_ix hu1 (me_var (pv 4)) (me_int) (fun _ _ => rfl))) (ma_nil))) (many_cons (many_cons (many_nil))) rfl (fun _ _ _ _ _ _ us hl => match us, hl with | [_, _], _ => rfl)))))) (mss_one (ms_set (i := 2) hN rfl (by first | exact Or.inl rfl | exact Or.inr rfl) (me_op o_add (me_var (pv 2)) (me_tup (ma_cons (me_var (pv 3)) (ma_nil)) (many_cons (many_nil))))))))) (mss_one (ms_ret (me_var (pv 2)))))
theorem sc25 : FnScope [("part" : Str), ("steps" : Str), ("step" : Str)] [("part" : Str)] (defScope (top 33)) := ⟨rfl, rfl, rfl, by decide +kernel, rfl, by decide +kernel, by decide +kernel⟩
/-- _law_done -/
theorem ok25 (T : Fx K mg) (O : Ok P w K mg base k C) : Dn P w K mg base (k + 1) "_law_done" (top 33) [("part" : Str)] (runF (m25 C) 3) := by
  obtain ⟨f, fd, h⟩ := T.h25
  refine Dn.succ h sc25 fun cdv A outer s H E hgd hr hN hpa hpo => ?_
  have hu1 := hr.u1
  have hu64 := hr.u64
  have hu70 := hr.u70
  exact mss_cons (ms_set (i := 1) hN rfl (by first | exact Or.inl rfl | exact Or.inr rfl) (me_if (mt_cmp (o_eq hu64) (me_ix hu1 (me_var (pv 0)) (me_int) (fun _ _ => rfl)) (me_str) (nomark _)) (me_ix hu1 (me_var (pv 0)) (me_int) (fun _ _ => rfl)) (me_op o_add (me_ix hu1 (me_var (pv 0)) (me_int) (fun _ _ => rfl)) (me_ix hu1 (me_var (pv 0)) (me_int) (fun _ _ => rfl))))) (mss_one (ms_ret (me_comp (own := [(("step" : Str), 2)]) rfl hN (me_var (pv 1)) ⟨blkOk_by (own := [(("step" : Str), 2)]) (by rfl), fun s H C cl fp => mgc_of (pg_name hN rfl (by first | exact Or.inl rfl | exact Or.inr rfl)) (by decide), fun s H C cl fp => mts_one (mt_cmp (o_eq hu64) (me_ix hu1 (me_var (pv 2)) (me_int) (fun _ _ => rfl)) (me_str) (nomark _)), fun s H C cl fp => me_ix hu1 (me_var (pv 2)) (me_int) (fun _ _ => rfl)⟩)))
theorem sc26 : FnScope [("parts" : Str), ("name" : Str), ("found" : Str), ("fresh" : Str), ("own" : Str)] [("parts" : Str), ("name" : Str)] (defScope (top 34)) := ⟨rfl, rfl, rfl, by decide +kernel, rfl, by decide +kernel, by decide +kernel⟩
/-- _law_all_done -/
theorem ok26 (T : Fx K mg) (O : Ok P w K mg base k C) : Dn P w K mg base (k + 1) "_law_all_done" (top 34) [("parts" : Str), ("name" : Str)] (runF (m26 C) 5) := by
  obtain ⟨f, fd, h⟩ := T.h26
  refine Dn.succ h sc26 fun cdv A outer s H E hgd hr hN hpa hpo => ?_
  have hu1 := hr.u1
  have hu64 := hr.u64
  have hu70 := hr.u70
  exact mss_cons (ms_par (i := 2) (j := 3) rfl hN rfl rfl (by decide) rfl rfl (ma_cons (me_lst (ma_nil) (many_nil)) (ma_cons (me_lst (ma_cons (me_var (pv 1)) (ma_nil)) (many_cons (many_nil))) (ma_nil))) rfl) (mss_cons (ms_while hpo (mt_cmp (o_ne hu64) (me_var (pv 3)) (me_lst (ma_nil) (many_nil)) (nomark _)) (mss_one (ms_forA hpo rfl (me_callD O.d25 hgd hr (by rfl) hpa (ma_cons (me_ix hu1 (me_var (pv 0)) (me_pop (me_var (pv 3))) (fun _ _ => rfl)) (ma_nil)) (many_cons (many_nil)) rfl (fun _ _ _ _ _ _ us hl => match us, hl with | [_], _ => rfl)) (mg_name hN rfl (by first | exact Or.inl rfl | exact Or.inr rfl)) (mss_one (ms_if (mt_notIn hu1 (me_var (pv 4)) (me_var (pv 2)) rfl) (mss_cons (ms_drop (me_append (me_var (pv 2)) (ma_cons (me_var (pv 4)) (ma_nil)))) (mss_one (ms_drop (me_append (me_var (pv 3)) (ma_cons (me_var (pv 4)) (ma_nil)))))) (mss_nil)))))) (mss_one (ms_ret (me_var (pv 2)))))
theorem sc27 : FnScope [("parts" : Str), ("steps" : Str), ("found" : Str), ("step" : Str), ("part" : Str)] [("parts" : Str), ("steps" : Str)] (defScope (top 35)) := ⟨rfl, rfl, rfl, by decide +kernel, rfl, by decide +kernel, by decide +kernel⟩
/-- _law_weight -/
theorem ok27 (T : Fx K mg) (O : Ok P w K mg base k C) : Dn P w K mg base (k + 1) "_law_weight" (top 35) [("parts" : Str), ("steps" : Str)] (runF (m27 C) 5) := by
  obtain ⟨f, fd, h⟩ := T.h27
  refine Dn.succ h sc27 fun cdv A outer s H E hgd hr hN hpa hpo => ?_
  have hu1 := hr.u1
  have hu64 := hr.u64
  have hu70 := hr.u70
  exact mss_cons (ms_set (i := 2) hN rfl (by first | exact Or.inl rfl | exact Or.inr rfl) (me_int)) (mss_cons (ms_forA hpo rfl (me_var (pv 1)) (mg_name hN rfl (by first | exact Or.inl rfl | exact Or.inr rfl)) (mss_cons (ms_set (i := 2) hN rfl (by first | exact Or.inl rfl | exact Or.inr rfl) (me_op o_add (me_var (pv 2)) (me_callD O.d18 hgd hr (by rfl) hpa (ma_cons (me_tup (ma_cons (me_var (pv 3)) (ma_nil)) (many_cons (many_nil))) (ma_nil)) (many_cons (many_nil)) rfl (fun _ _ _ _ _ _ us hl => match us, hl with | [_], _ => rfl)))) (mss_one (ms_if (mt_cmp (o_eq hu64) (me_ix hu1 (me_var (pv 3)) (me_int) (fun _ _ => rfl)) (me_str) (nomark _)) (mss_cons (ms_set (i := 4) hN rfl (by first | exact Or.inl rfl | exact Or.inr rfl) (me_ix hu1 (me_var (pv 0)) (me_ix hu1 (me_var (pv 3)) (me_int) (fun _ _ => rfl)) (fun _ _ => rfl))) (mss_one (ms_set (i := 2) hN rfl (by first | exact Or.inl rfl | exact Or.inr rfl) (me_op o_add (me_var (pv 2)) (me_callD O.d27 hgd hr (by rfl) hpa (ma_cons (me_var (pv 0)) (ma_cons (me_if (mt_cmp (o_eq hu64) (me_ix hu1 (me_var (pv 4)) (me_int) (fun _ _ => rfl)) (me_str) (nomark _)) (me_ix hu1 (me_var (pv 4)) (me_int) (fun _ _ => rfl)) (me_ix hu1 (me_var (pv 4)) (me_int) (fun _ _ => rfl))) (ma_nil))) (many_cons (many_cons (many_nil))) rfl (fun _ _ _ _ _ _ us hl => match us, hl with | [_, _], _ => rfl)))))) (mss_nil))))) (mss_one (ms_ret (me_var (pv 2)))))
theorem sc28 : FnScope [("parts" : Str), ("part" : Str)] [("parts" : Str), ("part" : Str)] (defScope (top 36)) := ⟨rfl, rfl, rfl, by decide +kernel, rfl, by decide +kernel, by decide +kernel⟩
/-- _law_is_small -/
theorem ok28 (T : Fx K mg) (O : Ok P w K mg base k C) : Dn P w K mg base (k + 1) "_law_is_small" (top 36) [("parts" : Str), ("part" : Str)] (runF (m28 C) 2) := by
  obtain ⟨f, fd, h⟩ := T.h28
  refine Dn.succ h sc28 fun cdv A outer s H E hgd hr hN hpa hpo => ?_
  have hu1 := hr.u1
  have hu64 := hr.u64
  have hu70 := hr.u70
  exact mss_one (ms_ret (me_cmp o_lt (me_callD O.d27 hgd hr (by rfl) hpa (ma_cons (me_var (pv 0)) (ma_cons (me_if (mt_cmp (o_eq hu64) (me_ix hu1 (me_var (pv 1)) (me_int) (fun _ _ => rfl)) (me_str) (nomark _)) (me_ix hu1 (me_var (pv 1)) (me_int) (fun _ _ => rfl)) (me_ix hu1 (me_var (pv 1)) (me_int) (fun _ _ => rfl))) (ma_nil))) (many_cons (many_cons (many_nil))) rfl (fun _ _ _ _ _ _ us hl => match us, hl with | [_, _], _ => rfl)) (me_int) (nomark _)))
theorem sc29 : FnScope [("script" : Str), ("urn" : Str), ("turn" : Str), ("book" : Str), ("known" : Str), ("parts" : Str), ("place" : Str), ("part" : Str), ("name" : Str), ("shorter" : Str), ("due" : Str), ("inner" : Str), ("row" : Str), ("told" : Str), ("own" : Str)] [("script" : Str)] (defScope (top 37)) := ⟨rfl, rfl, rfl, by decide +kernel, rfl, by decide +kernel, by decide +kernel⟩
/-- law -/
theorem ok29 (T : Fx K mg) (O : Ok P w K mg base k C) : Dn P w K mg base (k + 1) "law" (top 37) [("script" : Str)] (runF (m29 C) 15) := by
  obtain ⟨f, fd, h⟩ := T.h29
  refine Dn.succ h sc29 fun cdv A outer s H E hgd hr hN hpa hpo => ?_
  have hu1 := hr.u1
  have hu64 := hr.u64
  have hu70 := hr.u70
  exact mss_cons (ms_set (i := 1) hN rfl (by first | exact Or.inl rfl | exact Or.inr rfl) (me_callD O.d13 hgd hr (by rfl) hpa (ma_cons (me_var (pv 0)) (ma_nil)) (many_cons (many_nil)) rfl (fun _ _ _ _ _ _ us hl => match us, hl with | [_], _ => rfl))) (mss_cons (ms_range1 hpo rfl (by rfl) T.g_range (ma_cons (me_int) (ma_nil)) (mg_name hN rfl (by first | exact Or.inl rfl | exact Or.inr rfl)) (mss_cons (ms_set (i := 3) hN rfl (by first | exact Or.inl rfl | exact Or.inr rfl) (me_callD O.d23 hgd hr (by rfl) hpa (ma_cons (me_var (pv 1)) (ma_cons (me_int) (ma_nil))) (many_cons (many_cons (many_nil))) rfl (fun _ _ _ _ _ _ us hl => match us, hl with | [_, _], _ => rfl))) (mss_cons (ms_par (i := 4) (j := 5) rfl hN rfl rfl (by decide) rfl rfl (ma_cons (me_callB (c_repr hgd hu70) (by rfl) T.g_repr bo_repr (ma_cons (me_var (pv 3)) (ma_nil))) (ma_cons (me_callD O.d12 hgd hr (by rfl) hpa (ma_cons (me_var (pv 3)) (ma_nil)) (many_cons (many_nil)) rfl (fun _ _ _ _ _ _ us hl => match us, hl with | [_], _ => rfl)) (ma_nil))) rfl) (mss_cons (ms_enum hpo rfl (by rfl) T.g_enumerate (ma_cons (me_ix hu1 (me_var (pv 3)) (me_int) (fun _ _ => rfl)) (ma_nil)) (mg_tup rfl (mgs_cons (mg_name hN rfl (by first | exact Or.inl rfl | exact Or.inr rfl)) (mgs_cons (mg_name hN rfl (by first | exact Or.inl rfl | exact Or.inr rfl)) (mgs_nil))) (tgMany_cons (tgMany_cons (tgMany_nil)))) (mss_cons (ms_par (i := 8) (j := 9) rfl hN rfl rfl (by decide) rfl rfl (ma_cons (me_ix hu1 (me_var (pv 7)) (me_int) (fun _ _ => rfl)) (ma_cons (me_tup (ma_cons (me_ix hu1 (me_var (pv 3)) (me_int) (fun _ _ => rfl)) (ma_cons (me_sl (me_ix hu1 (me_var (pv 3)) (me_int) (fun _ _ => rfl)) (mo_none) (mo_some (me_op o_add (me_var (pv 6)) (me_int)))) (ma_nil))) (many_cons (many_cons (many_nil)))) (ma_nil))) rfl) (mss_cons (ms_set (i := 10) hN rfl (by first | exact Or.inl rfl | exact Or.inr rfl) (me_callD O.d24 hgd hr (by rfl) hpa (ma_cons (me_var (pv 5)) (ma_cons (me_if (mt_cmp (o_eq hu64) (me_ix hu1 (me_var (pv 7)) (me_int) (fun _ _ => rfl)) (me_str) (nomark _)) (me_ix hu1 (me_var (pv 7)) (me_int) (fun _ _ => rfl)) (me_ix hu1 (me_var (pv 7)) (me_int) (fun _ _ => rfl))) (ma_nil))) (many_cons (many_cons (many_nil))) rfl (fun _ _ _ _ _ _ us hl => match us, hl with | [_, _], _ => rfl))) (mss_cons (ms_set (i := 11) hN rfl (by first | exact Or.inl rfl | exact Or.inr rfl) (me_callD O.d26 hgd hr (by rfl) hpa (ma_cons (me_var (pv 5)) (ma_cons (me_var (pv 8)) (ma_nil))) (many_cons (many_cons (many_nil))) rfl (fun _ _ _ _ _ _ us hl => match us, hl with | [_, _], _ => rfl))) (mss_cons (ms_set (i := 12) hN rfl (by first | exact Or.inl rfl | exact Or.inr rfl) (me_callTy (c_tuple) (by rfl) T.g_tuple bo_tuple (ma_cons (me_comp (own := [(("own" : Str), 14)]) rfl hN (me_ix hu1 (me_var (pv 3)) (me_int) (fun _ _ => rfl)) ⟨blkOk_by (own := [(("own" : Str), 14)]) (by rfl), fun s H C cl fp => mgc_of (pg_name hN rfl (by first | exact Or.inl rfl | exact Or.inr rfl)) (by decide), fun s H C cl fp => mts_one (mt_in hu1 (me_ix hu1 (me_var (pv 14)) (me_int) (fun _ _ => rfl)) (me_var (pv 11)) rfl), fun s H C cl fp => me_ix hu1 (me_var (pv 14)) (me_int) (fun _ _ => rfl)⟩) (ma_nil)))) (mss_cons (ms_if (mt_cmp (o_ne hu64) (me_callB (c_repr hgd hu70) (by rfl) T.g_repr bo_repr (ma_cons (me_lst (ma_cons (me_callD O.d11 hgd hr (by rfl) hpa (ma_cons (me_var (pv 3)) (ma_cons (me_var (pv 8)) (ma_nil))) (many_cons (many_cons (many_nil))) rfl (fun _ _ _ _ _ _ us hl => match us, hl with | [_, _], _ => rfl)) (ma_cons (me_callDK0 (ks := [("name" : Str), ("book" : Str)]) (ix := [1, 0]) O.d11 hgd hr (by rfl) hpa (mk_cons (me_var (pv 8)) (mk_cons (me_var (pv 3)) (mk_nil))) (many_cons (many_cons (many_nil))) rfl rfl rfl (fun _ _ _ _ _ _ ws h2 => match ws, h2 with | [_, _], _ => rfl)) (ma_cons (me_callD O.d11 hgd hr (by rfl) hpa (ma_cons (me_var (pv 9)) (ma_cons (me_var (pv 8)) (ma_nil))) (many_cons (many_cons (many_nil))) rfl (fun _ _ _ _ _ _ us hl => match us, hl with | [_, _], _ => rfl)) (ma_nil)))) (many_cons (many_cons (many_cons (many_nil))))) (ma_nil))) (me_callB (c_repr hgd hu70) (by rfl) T.g_repr bo_repr (ma_cons (me_op o_mul (me_lst (ma_cons (me_var (pv 12)) (ma_nil)) (many_cons (many_nil))) (me_int)) (ma_nil))) (nomark _)) (mss_one (ms_ret (me_bl))) (mss_nil)) (mss_one (ms_if ((mw_and (mt_cmp o_lt (me_callD O.d18 hgd hr (by rfl) hpa (ma_cons (me_var (pv 10)) (ma_nil)) (many_cons (many_nil)) rfl (fun _ _ _ _ _ _ us hl => match us, hl with | [_], _ => rfl)) (me_int) (nomark _)) (mw_and1 (mt_val (me_callD O.d28 hgd hr (by rfl) hpa (ma_cons (me_var (pv 5)) (ma_cons (me_var (pv 7)) (ma_nil))) (many_cons (many_cons (many_nil))) rfl (fun _ _ _ _ _ _ us hl => match us, hl with | [_, _], _ => rfl))))).pt) (mss_cons (ms_set (i := 13) hN rfl (by first | exact Or.inl rfl | exact Or.inr rfl) (me_lst (ma_cons (me_callD O.d9 hgd hr (by rfl) hpa (ma_cons (me_var (pv 3)) (ma_cons (me_var (pv 8)) (ma_nil))) (many_cons (many_cons (many_nil))) rfl (fun _ _ _ _ _ _ us hl => match us, hl with | [_, _], _ => rfl)) (ma_cons (me_callDK0 (ks := [("name" : Str), ("book" : Str)]) (ix := [1, 0]) O.d9 hgd hr (by rfl) hpa (mk_cons (me_var (pv 8)) (mk_cons (me_var (pv 3)) (mk_nil))) (many_cons (many_cons (many_nil))) rfl rfl rfl (fun _ _ _ _ _ _ ws h2 => match ws, h2 with | [_, _], _ => rfl)) (ma_cons (me_callD O.d9 hgd hr (by rfl) hpa (ma_cons (me_var (pv 9)) (ma_cons (me_var (pv 8)) (ma_nil))) (many_cons (many_cons (many_nil))) rfl (fun _ _ _ _ _ _ us hl => match us, hl with | [_, _], _ => rfl)) (ma_nil)))) (many_cons (many_cons (many_cons (many_nil)))))) (mss_one (ms_if (mt_cmp (o_ne hu64) (me_callB (c_repr hgd hu70) (by rfl) T.g_repr bo_repr (ma_cons (me_var (pv 13)) (ma_nil))) (me_callB (c_repr hgd hu70) (by rfl) T.g_repr bo_repr (ma_cons (me_op o_mul (me_lst (ma_cons (me_tup (ma_cons (me_ix hu1 (me_var (pv 3)) (me_int) (fun _ _ => rfl)) (ma_cons (me_var (pv 10)) (ma_nil))) (many_cons (many_cons (many_nil)))) (ma_nil)) (many_cons (many_nil))) (me_int)) (ma_nil))) (nomark _)) (mss_one (ms_ret (me_bl))) (mss_nil)))) (mss_nil))))))))) (mss_one (ms_if (mt_cmp (o_ne hu64) (me_callB (c_repr hgd hu70) (by rfl) T.g_repr bo_repr (ma_cons (me_var (pv 3)) (ma_nil))) (me_var (pv 4)) (nomark _)) (mss_one (ms_ret (me_bl))) (mss_nil))))))) (mss_one (ms_ret (me_bl))))
end
/-- the meanings, by how deep calls may go -/
noncomputable def CC : Nat → Nat → Fun1
  | 0, _ => fun _ _ => .bad
  | n + 1, i => match i with
    | 0 => runF (m0 (CC n)) 1
    | 1 => runF (m1 (CC n)) 10
    | 2 => runF (m2 (CC n)) 4
    | 3 => runF (m3 (CC n)) 4
    | 4 => runF (m4 (CC n)) 5
    | 5 => runF (m5 (CC n)) 1
    | 6 => runF (m6 (CC n)) 3
    | 7 => runF (m7 (CC n)) 4
    | 8 => runF (m8 (CC n)) 3
    | 9 => runF (m9 (CC n)) 3
    | 10 => runF (m10 (CC n)) 2
    | 11 => runF (m11 (CC n)) 8
    | 12 => runF (m12 (CC n)) 3
    | 13 => runF (m13 (CC n)) 4
    | 14 => runF (m14 (CC n)) 4
    | 15 => runF (m15 (CC n)) 2
    | 16 => runF (m16 (CC n)) 4
    | 17 => runF (m17 (CC n)) 1
    | 18 => runF (m18 (CC n)) 3
    | 19 => runF (m19 (CC n)) 2
    | 20 => runF (m20 (CC n)) 9
    | 21 => runF (m21 (CC n)) 5
    | 22 => runF (m22 (CC n)) 3
    | 23 => runF (m23 (CC n)) 13
    | 24 => runF (m24 (CC n)) 5
    | 25 => runF (m25 (CC n)) 3
    | 26 => runF (m26 (CC n)) 5
    | 27 => runF (m27 (CC n)) 5
    | 28 => runF (m28 (CC n)) 2
    | 29 => runF (m29 (CC n)) 15
    | _ => fun _ _ => .bad
theorem cc0 (n : Nat) : CC (n + 1) 0 = runF (m0 (CC n)) 1 := rfl
theorem cc1 (n : Nat) : CC (n + 1) 1 = runF (m1 (CC n)) 10 := rfl
theorem cc2 (n : Nat) : CC (n + 1) 2 = runF (m2 (CC n)) 4 := rfl
theorem cc3 (n : Nat) : CC (n + 1) 3 = runF (m3 (CC n)) 4 := rfl
theorem cc4 (n : Nat) : CC (n + 1) 4 = runF (m4 (CC n)) 5 := rfl
theorem cc5 (n : Nat) : CC (n + 1) 5 = runF (m5 (CC n)) 1 := rfl
theorem cc6 (n : Nat) : CC (n + 1) 6 = runF (m6 (CC n)) 3 := rfl
theorem cc7 (n : Nat) : CC (n + 1) 7 = runF (m7 (CC n)) 4 := rfl
theorem cc8 (n : Nat) : CC (n + 1) 8 = runF (m8 (CC n)) 3 := rfl
theorem cc9 (n : Nat) : CC (n + 1) 9 = runF (m9 (CC n)) 3 := rfl
theorem cc10 (n : Nat) : CC (n + 1) 10 = runF (m10 (CC n)) 2 := rfl
theorem cc11 (n : Nat) : CC (n + 1) 11 = runF (m11 (CC n)) 8 := rfl
theorem cc12 (n : Nat) : CC (n + 1) 12 = runF (m12 (CC n)) 3 := rfl
theorem cc13 (n : Nat) : CC (n + 1) 13 = runF (m13 (CC n)) 4 := rfl
theorem cc14 (n : Nat) : CC (n + 1) 14 = runF (m14 (CC n)) 4 := rfl
theorem cc15 (n : Nat) : CC (n + 1) 15 = runF (m15 (CC n)) 2 := rfl
theorem cc16 (n : Nat) : CC (n + 1) 16 = runF (m16 (CC n)) 4 := rfl
theorem cc17 (n : Nat) : CC (n + 1) 17 = runF (m17 (CC n)) 1 := rfl
theorem cc18 (n : Nat) : CC (n + 1) 18 = runF (m18 (CC n)) 3 := rfl
theorem cc19 (n : Nat) : CC (n + 1) 19 = runF (m19 (CC n)) 2 := rfl
theorem cc20 (n : Nat) : CC (n + 1) 20 = runF (m20 (CC n)) 9 := rfl
theorem cc21 (n : Nat) : CC (n + 1) 21 = runF (m21 (CC n)) 5 := rfl
theorem cc22 (n : Nat) : CC (n + 1) 22 = runF (m22 (CC n)) 3 := rfl
theorem cc23 (n : Nat) : CC (n + 1) 23 = runF (m23 (CC n)) 13 := rfl
theorem cc24 (n : Nat) : CC (n + 1) 24 = runF (m24 (CC n)) 5 := rfl
theorem cc25 (n : Nat) : CC (n + 1) 25 = runF (m25 (CC n)) 3 := rfl
theorem cc26 (n : Nat) : CC (n + 1) 26 = runF (m26 (CC n)) 5 := rfl
theorem cc27 (n : Nat) : CC (n + 1) 27 = runF (m27 (CC n)) 5 := rfl
theorem cc28 (n : Nat) : CC (n + 1) 28 = runF (m28 (CC n)) 2 := rfl
theorem cc29 (n : Nat) : CC (n + 1) 29 = runF (m29 (CC n)) 15 := rfl
theorem all_ok {P : Program} {w : World} {K : PySem.W.Frag} {mg : Str → Option Value} {base : Heap} (T : Fx K mg) : ∀ n, Ok P w K mg base n (CC n)
  | 0 => ⟨(by obtain ⟨f, fd, h⟩ := T.h0; exact Dn.zero h), (by obtain ⟨f, fd, h⟩ := T.h1; exact Dn.zero h), (by obtain ⟨f, fd, h⟩ := T.h2; exact Dn.zero h), (by obtain ⟨f, fd, h⟩ := T.h3; exact Dn.zero h), (by obtain ⟨f, fd, h⟩ := T.h4; exact Dn.zero h), (by obtain ⟨f, fd, h⟩ := T.h5; exact Dn.zero h), (by obtain ⟨f, fd, h⟩ := T.h6; exact Dn.zero h), (by obtain ⟨f, fd, h⟩ := T.h7; exact Dn.zero h), (by obtain ⟨f, fd, h⟩ := T.h8; exact Dn.zero h), (by obtain ⟨f, fd, h⟩ := T.h9; exact Dn.zero h), (by obtain ⟨f, fd, h⟩ := T.h10; exact Dn.zero h), (by obtain ⟨f, fd, h⟩ := T.h11; exact Dn.zero h), (by obtain ⟨f, fd, h⟩ := T.h12; exact Dn.zero h), (by obtain ⟨f, fd, h⟩ := T.h13; exact Dn.zero h), (by obtain ⟨f, fd, h⟩ := T.h14; exact Dn.zero h), (by obtain ⟨f, fd, h⟩ := T.h15; exact Dn.zero h), (by obtain ⟨f, fd, h⟩ := T.h16; exact Dn.zero h), (by obtain ⟨f, fd, h⟩ := T.h17; exact Dn.zero h), (by obtain ⟨f, fd, h⟩ := T.h18; exact Dn.zero h), (by obtain ⟨f, fd, h⟩ := T.h19; exact Dn.zero h), (by obtain ⟨f, fd, h⟩ := T.h20; exact Dn.zero h), (by obtain ⟨f, fd, h⟩ := T.h21; exact Dn.zero h), (by obtain ⟨f, fd, h⟩ := T.h22; exact Dn.zero h), (by obtain ⟨f, fd, h⟩ := T.h23; exact Dn.zero h), (by obtain ⟨f, fd, h⟩ := T.h24; exact Dn.zero h), (by obtain ⟨f, fd, h⟩ := T.h25; exact Dn.zero h), (by obtain ⟨f, fd, h⟩ := T.h26; exact Dn.zero h), (by obtain ⟨f, fd, h⟩ := T.h27; exact Dn.zero h), (by obtain ⟨f, fd, h⟩ := T.h28; exact Dn.zero h), (by obtain ⟨f, fd, h⟩ := T.h29; exact Dn.zero h)⟩
  | n + 1 => ⟨ok0 T (all_ok T n), ok1 T (all_ok T n), ok2 T (all_ok T n), ok3 T (all_ok T n), ok4 T (all_ok T n), ok5 T (all_ok T n), ok6 T (all_ok T n), ok7 T (all_ok T n), ok8 T (all_ok T n), ok9 T (all_ok T n), ok10 T (all_ok T n), ok11 T (all_ok T n), ok12 T (all_ok T n), ok13 T (all_ok T n), ok14 T (all_ok T n), ok15 T (all_ok T n), ok16 T (all_ok T n), ok17 T (all_ok T n), ok18 T (all_ok T n), ok19 T (all_ok T n), ok20 T (all_ok T n), ok21 T (all_ok T n), ok22 T (all_ok T n), ok23 T (all_ok T n), ok24 T (all_ok T n), ok25 T (all_ok T n), ok26 T (all_ok T n), ok27 T (all_ok T n), ok28 T (all_ok T n), ok29 T (all_ok T n)⟩
-- 0: is_branching
-- 1: walked
-- 2: ways
-- 3: done_in
-- 4: size_of
-- 5: told_items
-- 6: told_sizes
-- 7: all_settled
-- 8: part_called
-- 9: settled
-- 10: names_done
-- 11: uses
-- 12: _law_by_name
-- 13: _law_urn
-- 14: _law_take
-- 15: _law_pick
-- 16: _law_mixed
-- 17: _law_is_branch
-- 18: _law_count
-- 19: _law_any_die
-- 20: _law_any_step
-- 21: _law_any_steps
-- 22: _law_names
-- 23: _law_any_book
-- 24: _law_settled
-- 25: _law_done
-- 26: _law_all_done
-- 27: _law_weight
-- 28: _law_is_small
-- 29: law
end W64
namespace W64
open PySem PySem.Spec L2 EV

@[simp] theorem sne0 : (("deep" : Str) = ("state" : Str)) = False := eq_false (by decide +kernel)
@[simp] theorem sme0 : (("state" : Str) = ("deep" : Str)) = False := eq_false (by decide +kernel)
@[simp] theorem sne1 : (("deep" : Str) = ("turn" : Str)) = False := eq_false (by decide +kernel)
@[simp] theorem sme1 : (("turn" : Str) = ("deep" : Str)) = False := eq_false (by decide +kernel)
@[simp] theorem sne2 : (("state" : Str) = ("turn" : Str)) = False := eq_false (by decide +kernel)
@[simp] theorem sme2 : (("turn" : Str) = ("state" : Str)) = False := eq_false (by decide +kernel)
@[simp] theorem sne3 : (("if" : Str) = ("do" : Str)) = False := eq_false (by decide +kernel)
@[simp] theorem sme3 : (("do" : Str) = ("if" : Str)) = False := eq_false (by decide +kernel)
@[simp] theorem sne4 : (("if" : Str) = ("set" : Str)) = False := eq_false (by decide +kernel)
@[simp] theorem sme4 : (("set" : Str) = ("if" : Str)) = False := eq_false (by decide +kernel)
@[simp] theorem sne5 : (("if" : Str) = ("add" : Str)) = False := eq_false (by decide +kernel)
@[simp] theorem sme5 : (("add" : Str) = ("if" : Str)) = False := eq_false (by decide +kernel)
@[simp] theorem sne6 : (("if" : Str) = ("less" : Str)) = False := eq_false (by decide +kernel)
@[simp] theorem sme6 : (("less" : Str) = ("if" : Str)) = False := eq_false (by decide +kernel)
@[simp] theorem sne7 : (("if" : Str) = ("throw" : Str)) = False := eq_false (by decide +kernel)
@[simp] theorem sme7 : (("throw" : Str) = ("if" : Str)) = False := eq_false (by decide +kernel)
@[simp] theorem sne8 : (("if" : Str) = ("sum" : Str)) = False := eq_false (by decide +kernel)
@[simp] theorem sme8 : (("sum" : Str) = ("if" : Str)) = False := eq_false (by decide +kernel)
@[simp] theorem sne9 : (("if" : Str) = ("seen" : Str)) = False := eq_false (by decide +kernel)
@[simp] theorem sme9 : (("seen" : Str) = ("if" : Str)) = False := eq_false (by decide +kernel)
@[simp] theorem sne10 : (("if" : Str) = ("either" : Str)) = False := eq_false (by decide +kernel)
@[simp] theorem sme10 : (("either" : Str) = ("if" : Str)) = False := eq_false (by decide +kernel)
@[simp] theorem sne11 : (("either" : Str) = ("do" : Str)) = False := eq_false (by decide +kernel)
@[simp] theorem sme11 : (("do" : Str) = ("either" : Str)) = False := eq_false (by decide +kernel)
@[simp] theorem sne12 : (("either" : Str) = ("set" : Str)) = False := eq_false (by decide +kernel)
@[simp] theorem sme12 : (("set" : Str) = ("either" : Str)) = False := eq_false (by decide +kernel)
@[simp] theorem sne13 : (("either" : Str) = ("add" : Str)) = False := eq_false (by decide +kernel)
@[simp] theorem sme13 : (("add" : Str) = ("either" : Str)) = False := eq_false (by decide +kernel)
@[simp] theorem sne14 : (("either" : Str) = ("less" : Str)) = False := eq_false (by decide +kernel)
@[simp] theorem sme14 : (("less" : Str) = ("either" : Str)) = False := eq_false (by decide +kernel)
@[simp] theorem sne15 : (("either" : Str) = ("throw" : Str)) = False := eq_false (by decide +kernel)
@[simp] theorem sme15 : (("throw" : Str) = ("either" : Str)) = False := eq_false (by decide +kernel)
@[simp] theorem sne16 : (("either" : Str) = ("sum" : Str)) = False := eq_false (by decide +kernel)
@[simp] theorem sme16 : (("sum" : Str) = ("either" : Str)) = False := eq_false (by decide +kernel)
@[simp] theorem sne17 : (("either" : Str) = ("seen" : Str)) = False := eq_false (by decide +kernel)
@[simp] theorem sme17 : (("seen" : Str) = ("either" : Str)) = False := eq_false (by decide +kernel)
@[simp] theorem sne18 : (("do" : Str) = ("set" : Str)) = False := eq_false (by decide +kernel)
@[simp] theorem sme18 : (("set" : Str) = ("do" : Str)) = False := eq_false (by decide +kernel)
@[simp] theorem sne19 : (("do" : Str) = ("add" : Str)) = False := eq_false (by decide +kernel)
@[simp] theorem sme19 : (("add" : Str) = ("do" : Str)) = False := eq_false (by decide +kernel)
@[simp] theorem sne20 : (("do" : Str) = ("less" : Str)) = False := eq_false (by decide +kernel)
@[simp] theorem sme20 : (("less" : Str) = ("do" : Str)) = False := eq_false (by decide +kernel)
@[simp] theorem sne21 : (("do" : Str) = ("throw" : Str)) = False := eq_false (by decide +kernel)
@[simp] theorem sme21 : (("throw" : Str) = ("do" : Str)) = False := eq_false (by decide +kernel)
@[simp] theorem sne22 : (("do" : Str) = ("sum" : Str)) = False := eq_false (by decide +kernel)
@[simp] theorem sme22 : (("sum" : Str) = ("do" : Str)) = False := eq_false (by decide +kernel)
@[simp] theorem sne23 : (("do" : Str) = ("seen" : Str)) = False := eq_false (by decide +kernel)
@[simp] theorem sme23 : (("seen" : Str) = ("do" : Str)) = False := eq_false (by decide +kernel)
@[simp] theorem sne24 : (("program" : Str) = ("loop" : Str)) = False := eq_false (by decide +kernel)
@[simp] theorem sme24 : (("loop" : Str) = ("program" : Str)) = False := eq_false (by decide +kernel)
theorem take_ok (C : Nat → Fun1) : TakeOk (runF (m14 C) 4) := by
  intro u d st m hu hm60
  obtain ⟨s, t, ns, h1, h2, h3, h4, h5⟩ := hu.ex
  by_cases hm : m < 2
  · refine ⟨0, st, ?_, URs.refl hu, Int.le_refl _, .inr ⟨rfl, hm⟩⟩
    simp [m14, hm, gcR_flat0]
  have hm0 : 0 < m := by omega
  have hm9 : m.natAbs.log2 < 9000 := Nat.lt_of_lt_of_le ((Nat.log2_lt (by omega)).mpr (show m.natAbs < 2 ^ 60 by omega)) (by decide)
  have key : ∃ k st', runF (m14 C) 4 [.ref u, .int m] st = gcR st (.ok (.int k) st') ∧ UR u d st st' ∧ 0 ≤ k ∧ k < m := by
    have k1 := app_old (t := [Cell.lst []]) h1
    have k2 := app_old (t := [Cell.lst []]) h2
    have lu := lt_of_at k1
    have ld := lt_of_at k2
    by_cases hn : ns = []
    · subst hn
      let s' : Int := (s * 2862933555777941757 + 3037000493 * (t + 1)) % 2305843009213693951
      have s0 : 0 ≤ s' := Int.emod_nonneg _ (by decide)
      have s1 : s' < 2 ^ 61 := Int.lt_trans (Int.emod_lt_of_pos _ (by decide)) (by decide)
      have ms : EV.small64 s' := small_of s0 s1
      refine ⟨(s' * s' + 362436069 * s') % 2305843009213693921 / 4194304 % m, (st ++ [Cell.lst []]).set u (.dK [(.inr "deep", .ref d), (.inr "state", .int s'), (.inr "turn", .int (t + 1))]), ?_, ?_, Int.emod_nonneg _ (by omega), Int.emod_lt_of_pos _ hm0⟩
      · simp [m14, hm, oIx_str h1, oNe_nil k2, oIx_str k1, putIx_str k1, dput, oIx_set lu, putIx_set lu, oMul_r sm1, oMul_l sm2, oMul_l sm3, oMul_l ms, oMod_int, oFloorDiv_int _ lg4, hm0, s']
      · refine ⟨by simp, fun r q1 q2 q3 => ?_, hu.ne, s', t + 1, [], set_at lu, set_old k2 hu.ne.symm, s0, s1, by simp⟩
        rw [List.getElem?_set_ne (Ne.symm q2), List.getElem?_append_left q1]
    · obtain ⟨n0, n1, hns⟩ : ∃ n0 n1, ns = n0 ++ [n1] := ⟨ns.dropLast, ns.getLast hn, (List.dropLast_concat_getLast hn).symm⟩
      subst hns
      have k3 : (st ++ [Cell.lst []])[d]? = some (.lst (n0.map Val.int ++ [.int n1])) := by rw [k2]; simp
      have k4 : ((st ++ [Cell.lst []]).set d (.lst (n0.map Val.int)))[u]? = _ := set_old k1 hu.ne
      by_cases hg : m ≤ n1
      · have hz : n0.length < 16777216 := by rw [List.length_append] at h5; simp at h5; omega
        · refine ⟨n1 % m, (st ++ [Cell.lst []]).set d (.lst (n0.map Val.int ++ [.int (n1 / m)])), ?_, ?_, Int.emod_nonneg _ (by omega), Int.emod_lt_of_pos _ hm0⟩
          · simp [m14, hm, oIx_str h1, oIx_str k1, oNe_nil k2, k3, mPop_last k3, hg, oMod_int, hm0, oIx_str k4, set_at ld, mAppend_set ld, hz, oFloorDiv_int hm0 hm9]
          · refine ⟨by simp, fun r q1 q2 q3 => ?_, hu.ne, s, t, n0 ++ [n1 / m], set_old k1 hu.ne, by rw [set_at ld]; simp, h3, h4, by simpa using h5⟩
            rw [List.getElem?_set_ne (Ne.symm q3), List.getElem?_append_left q1]
      · refine ⟨n1 % m, (st ++ [Cell.lst []]).set d (.lst (n0.map Val.int)), ?_, ?_, Int.emod_nonneg _ (by omega), Int.emod_lt_of_pos _ hm0⟩
        · simp [m14, hm, oIx_str h1, oIx_str k1, oNe_nil k2, k3, mPop_last k3, hg, oMod_int, hm0]
        · refine ⟨by simp, fun r q1 q2 q3 => ?_, hu.ne, s, t, n0, k4, set_at ld, h3, h4, by rw [List.length_append] at h5; omega⟩
          rw [List.getElem?_set_ne (Ne.symm q3), List.getElem?_append_left q1]
  obtain ⟨k, st', e, q5, h6, h7⟩ := key
  obtain ⟨e1, e2⟩ := gcR_urn (x := .int k) hu q5 (by simp)
  exact ⟨k, _, e.trans e1, e2, h6, .inl h7⟩
end W64
namespace W64
open PySem PySem.Spec L2 EV

theorem pick_ok {C : Nat → Fun1} (hT : TakeOk (C 14)) : PickOk (runF (m15 C) 2) := by
  intro u d q st xs hu hq q1 q2 hne hl hf
  obtain ⟨k, st1, e, hr, h0, h1⟩ := hT u d st xs.length hu (by omega)
  have hpos : 0 < xs.length := List.length_pos_iff.mpr hne
  have hk : k < xs.length := by rcases h1 with h1 | ⟨h1, _⟩ <;> omega
  obtain ⟨j, rfl⟩ := Int.eq_ofNat_of_zero_le h0
  have hj : j < xs.length := by omega
  have hx : xs[j]? = some xs[j] := List.getElem?_eq_getElem hj
  have hm : xs[j] ∈ xs := List.getElem_mem hj
  have hq1 := hr.toUR.at_ hq q1 q2
  have hfx := flatAll_iff.mp hf _ hm
  obtain ⟨e1, e2⟩ := gcR_urn hu hr.toUR hfx
  refine ⟨xs[j], _, ?_, e2, hm⟩
  rw [← e1]
  simp [m15, nLen_lst hq, e, oIx_lst hq1, atI_nat hx]
theorem erase_perm {α : Type} : ∀ {xs : List α} {j : Nat} (h : j < xs.length), (xs[j] :: xs.eraseIdx j).Perm xs
  | x :: xs, 0, _ => List.Perm.refl _
  | x :: xs, j + 1, h => by
    have h' : j < xs.length := by simpa using h
    have ih := erase_perm h'
    show (xs[j] :: x :: xs.eraseIdx j).Perm (x :: xs)
    exact (List.Perm.swap x _ _).trans (ih.cons x)
theorem mixed_ok {C : Nat → Fun1} (hT : TakeOk (C 14)) : MixOk (runF (m16 C) 4) := by
  intro u d q st xs hu hq q1 q2 hf hl
  have lu := hu.u_lt
  have ld := hu.d_lt
  have n1 : st.length ≠ u := by omega
  have n2 : st.length ≠ d := by omega
  have n3 : st.length + 1 ≠ u := by omega
  have n4 : st.length + 1 ≠ d := by omega
  have hw := while_rule (t := t16_0 C) (b := b16_0 C)
    (P := fun ρ s => ρ[3]? = some (some (.ref (st.length + 1))) ∧ UR u d st s ∧ ∃ ys, s[st.length + 1]? = some (.lst ys) ∧ ys.Perm xs)
    (fun n ρ s => ρ = [some (.ref u), some (.ref q), some (.ref st.length), some (.ref (st.length + 1))] ∧ UR u d st s ∧ ∃ left found, s[st.length]? = some (.lst left) ∧ s[st.length + 1]? = some (.lst found) ∧ (left ++ found).Perm xs ∧ n = left.length) (by
      rintro n ρ s ⟨rfl, hs, left, found, h1, h2, hp, rfl⟩
      cases left with
      | nil =>
        left
        refine ⟨s ++ [.lst []], ?_, rfl, hs.app _, found, app_old h2, hp⟩
        simp [t16_0, oNe_nil (app_old h1)]
      | cons l0 ls =>
        right
        have hlen := hp.length_eq
        simp at hlen
        have h1' := app_old (t := [Cell.lst []]) h1
        have h2' := app_old (t := [Cell.lst []]) h2
        obtain ⟨k, s1, e, hr, h0, h3⟩ := hT u d (s ++ [.lst []]) (ls.length + 1) (hs.urn.app _) (by omega)
        obtain ⟨j, rfl⟩ := Int.eq_ofNat_of_zero_le h0
        have hj : j < (l0 :: ls).length := by simp; omega
        have hx : (l0 :: ls)[j]? = some (l0 :: ls)[j] := List.getElem?_eq_getElem hj
        have a1 := hr.toUR.at_ h1' n1 n2
        have a2 := hr.toUR.at_ h2' n3 n4
        have hz : found.length < 16777216 := by omega
        have a3 : (s1.set st.length (.lst ((l0 :: ls).eraseIdx j)))[st.length + 1]? = some (.lst found) := set_old a2 (by omega)
        have hs1 : UR u d st s1 := (hs.app _).trans hr.toUR
        have hset : ∀ {c : Cell} {k : Nat} {s : Store}, st.length ≤ k → UR u d st s → UR u d st (s.set k c) := fun {c k s} hk h => by
          obtain ⟨a, b, ns, e1, e2, e3⟩ := h.urn.ex
          exact ⟨by rw [List.length_set]; exact h.len, fun r r1 r2 r3 => by rw [List.getElem?_set_ne (by omega)]; exact h.old r r1 r2 r3, h.urn.ne, a, b, ns, by rw [List.getElem?_set_ne (by omega)]; exact e1, by rw [List.getElem?_set_ne (by omega)]; exact e2, e3⟩
        refine ⟨s ++ [.lst []], _, (s1.set st.length (.lst ((l0 :: ls).eraseIdx j))).set (st.length + 1) (.lst (found ++ [(l0 :: ls)[j]])), ls.length, ?_, ?_, by simp, rfl, hset (by omega) (hset (Nat.le_refl _) hs1), (l0 :: ls).eraseIdx j, found ++ [(l0 :: ls)[j]], ?_, ?_, ?_, ?_⟩
        · simp [t16_0, oNe_nil h1']
        · simp [b16_0, h2', h1', nLen_lst h1', e, mPop_at a1 hx (by simp; omega), mAppend_lst a3, hz]
        · exact set_old (set_at (lt_of_at a1)) (by omega)
        · exact set_at (by rw [List.length_set]; exact lt_of_at a2)
        · refine List.Perm.trans ?_ hp
          have p1 : ((l0 :: ls)[j] :: (l0 :: ls).eraseIdx j).Perm (l0 :: ls) := erase_perm hj
          have p2 : ((l0 :: ls).eraseIdx j ++ (found ++ [(l0 :: ls)[j]])).Perm ((l0 :: ls)[j] :: (l0 :: ls).eraseIdx j ++ found) := by
            rw [← List.append_assoc]
            exact List.perm_append_comm.trans (by simp)
          exact p2.trans (p1.append_right found)
        · rw [List.length_eraseIdx, if_pos hj]; simp)
  obtain ⟨ρ', st', e, h3, hr, ys, hy, hp⟩ := hw xs.length [some (.ref u), some (.ref q), some (.ref st.length), some (.ref (st.length + 1))] (st ++ [.lst xs] ++ [.lst []]) ⟨rfl, by rw [List.append_assoc]; exact UR.app0 hu _, xs, [], by simp, by simp, by simp, rfl⟩
  obtain ⟨s2, e1, e2⟩ := gcR_urnL hu hr (Nat.le_add_right _ 1) hy (by rw [flatAll_iff] at hf ⊢; exact fun x hx => hf x (hp.mem_iff.mp hx))
  refine ⟨ys, s2, ?_, e2, hp⟩
  rw [← e1]
  simp [m16, nList_lst hq] at e ⊢
  rw [e]
  simp [h3]
end W64
namespace EV
open PySem PySem.Spec L2
@[simp] theorem nIsi_tup {xs : List Val} {st : Store} : nIsi [.tup xs, .ty "tuple"] st = some (.bl true, st) := rfl
@[simp] theorem nIsi_str {x : Str} {st : Store} : nIsi [.str x, .ty "str"] st = some (.bl true, st) := rfl
theorem oIn_strs {a : Str} {xs : List Str} {st : Store} : oIn (.str a) (.tup (xs.map Val.str)) st = some (.bl (decide (a ∈ xs)), st) := by
  have h : flats (xs.map Val.str) = some (xs.map V.str) := by
    induction xs with
    | nil => rfl
    | cons x xs ih => simp [flats, flatVal, ih]
  unfold oIn isIn inOf
  simp only [flatVal, h]
  have : inV (.str a) (xs.map V.str) = decide (a ∈ xs) := by
    have e : ∀ x : Str, eqV (V.str x) (V.str a) = decide (a = x) := fun x => by
      by_cases q : a = x
      · subst q; simp [eqV]
      · simp [eqV, q, Ne.symm q]
    have go : ∀ ys : List Str, inV (.str a) (ys.map V.str) = decide (a ∈ ys) := fun ys => by
      unfold inV
      induction ys with
      | nil => simp
      | cons y ys ih =>
        rw [List.map_cons, List.any_cons, e, ih]
        simp
    exact go xs
  rw [this]; rfl
theorem oIn_str2 {a b c : Str} {st : Store} : oIn (.str a) (.tup [.str b, .str c]) st = some (.bl (decide (a = b ∨ a = c)), st) := by
  have := oIn_strs (a := a) (xs := [b, c]) (st := st)
  simp at this
  simpa using this
end EV
namespace W64
open PySem PySem.Spec L2 EV
/-- steps -/
inductive Sp where
  | leaf (op : Str) (r : List Val)
  | br (op : Str) (x : Val) (ys ns : List Sp)
  | go (n : Str)
mutual
def Sp.v : Sp → Val
  | .leaf op r => .tup (.str op :: r)
  | .br op x ys ns => .tup [.str op, x, .tup (vsOf ys), .tup (vsOf ns)]
  | .go n => .tup [.str "do", .str n]
def vsOf : List Sp → List Val
  | [] => []
  | s :: r => s.v :: vsOf r
end
mutual
def Sp.cnt : Sp → Nat
  | .leaf _ _ => 1
  | .br _ _ ys ns => 1 + (cnts ys + cnts ns)
  | .go _ => 1
def cnts : List Sp → Nat
  | [] => 0
  | s :: r => s.cnt + cnts r
end
mutual
def Sp.Ok : Sp → Prop
  | .leaf op r => (op ≠ "do" ∧ op ≠ "if" ∧ op ≠ "either") ∧ (Val.tup (.str op :: r)).fine = true
  | .br op x ys ns => (op = "if" ∨ op = "either") ∧ (Val.str op).fine = true ∧ x.fine = true ∧ oks ys ∧ oks ns
  | .go n => (Val.str n).fine = true
def oks : List Sp → Prop
  | [] => True
  | s :: r => s.Ok ∧ oks r
end
def Sp.isBr : Sp → Bool
  | .br _ _ _ _ => true
  | _ => false
theorem vsOf_map (l : List Sp) : vsOf l = l.map Sp.v := by
  induction l with
  | nil => rw [vsOf]; rfl
  | cons s r ih => rw [vsOf, ih]; rfl
theorem cnts_sum (l : List Sp) : cnts l = (l.map Sp.cnt).sum := by
  induction l with
  | nil => rw [cnts]; rfl
  | cons s r ih => rw [cnts, ih]; rfl
theorem oks_iff (l : List Sp) : oks l ↔ ∀ s ∈ l, s.Ok := by
  induction l with
  | nil => rw [oks]; simp
  | cons s r ih => rw [oks, ih]; simp
mutual
theorem Sp.fine : ∀ s : Sp, s.Ok → s.v.fine = true
  | .leaf op r, h => by unfold Sp.Ok at h; unfold Sp.v; exact h.2
  | .br op x ys ns, h => by
    unfold Sp.Ok at h
    unfold Sp.v
    obtain ⟨_, h1, h2, h3, h4⟩ := h
    simp [h1, h2, oks_fine ys h3, oks_fine ns h4]
  | .go n, h => by
    unfold Sp.Ok at h
    unfold Sp.v
    have : (Val.str ("do" : Str)).fine = true := by decide +kernel
    simp [h, this]
theorem oks_fine : ∀ l : List Sp, oks l → fineAll (vsOf l) = true
  | [], _ => by rw [vsOf]; simp
  | s :: r, h => by
    rw [oks] at h
    rw [vsOf, fineAll_cons, Sp.fine s h.1, oks_fine r h.2]; rfl
end
def BranchOk (f : Fun1) : Prop := ∀ (s : Sp) (st : Store), s.Ok → f [s.v] st = .ok (.bl s.isBr) st
theorem branch_ok (C : Nat → Fun1) : BranchOk (runF (m0 C) 1) := by
  intro s st h
  cases s with
  | leaf op r =>
    unfold Sp.Ok at h
    by_cases hl : r.length = 3
    · simp [m0, Sp.v, hl, oIn_str2, h.1, gcR_flat0, Sp.isBr]
    · have : ¬ ((r.length : Int) + 1 = 4) := by omega
      simp [m0, Sp.v, this, gcR_flat0, Sp.isBr]
  | br op x ys ns =>
    unfold Sp.Ok at h
    have : (decide (op = "if" ∨ op = "either")) = true := decide_eq_true h.1
    simp [m0, Sp.v, oIn_str2, this, gcR_flat0, Sp.isBr]
  | go n => simp [m0, Sp.v, gcR_flat0, Sp.isBr]
theorem branch2_ok (C : Nat → Fun1) : BranchOk (runF (m17 C) 1) := branch_ok C
end W64
namespace W64
open PySem PySem.Spec L2 EV
mutual
def Sp.dp : Sp → Nat
  | .br _ _ ys ns => 1 + max (dps ys) (dps ns)
  | _ => 0
def dps : List Sp → Nat
  | [] => 0
  | s :: r => max s.dp (dps r)
end
theorem dps_mem {l : List Sp} {s : Sp} (h : s ∈ l) : s.dp ≤ dps l := by
  induction l with
  | nil => cases h
  | cons a r ih =>
    rw [dps]
    rcases List.mem_cons.mp h with rfl | h
    · exact Nat.le_max_left _ _
    · exact Nat.le_trans (ih h) (Nat.le_max_right _ _)
theorem vs_get {l : List Sp} {i : Nat} {x : Val} (h : (vsOf l)[i]? = some x) : ∃ s, l[i]? = some s ∧ x = s.v := by
  rw [vsOf_map, List.getElem?_map, Option.map_eq_some_iff] at h
  obtain ⟨s, h1, h2⟩ := h
  exact ⟨s, h1, h2.symm⟩
theorem cnts_take {l : List Sp} {i : Nat} {s : Sp} (h : l[i]? = some s) : cnts (l.take (i + 1)) = cnts (l.take i) + s.cnt := by
  rw [List.take_succ, h, cnts_sum, cnts_sum]
  simp
theorem vs_len (l : List Sp) : (vsOf l).length = l.length := by rw [vsOf_map, List.length_map]
@[simp] theorem tabOf_tup {a : Ev} {ρ : Slots} {st st1 : Store} {xs : List Val} (h : a ρ st = .ok (.tup xs) st1) : tabOf a ρ st = none := by unfold tabOf; rw [h]
theorem count_ok : ∀ (m n : Nat), m + 2 ≤ n → ∀ (l : List Sp) (st : Store), oks l → dps l ≤ m → CC n 18 [.tup (vsOf l)] st = .ok (.int (cnts l)) st := by
  intro m
  induction m using Nat.strongRecOn with
  | _ m ih =>
    intro n hn l st hok hd
    obtain ⟨n, rfl⟩ : ∃ k, n = k + 1 := ⟨n - 1, by omega⟩
    have hb : BranchOk (CC n 17) := by
      obtain ⟨k, rfl⟩ : ∃ k, n = k + 1 := ⟨n - 1, by omega⟩
      rw [cc17]; exact branch2_ok _
    rw [cc18]
    obtain ⟨ρ', st', e, hs', c, rfl⟩ := for_rule (s := .vals (vsOf l)) (g := gSlot 2) (b := b18_0 (CC n))
      (fun i ρ s => s = st ∧ ∃ c, ρ = [some (.tup (vsOf l)), some (.int (cnts (l.take i))), c]) (vsOf l) (fun _ _ _ _ => trivial) (by
        rintro i x ρ s hx ⟨rfl, c, rfl⟩
        obtain ⟨sp, hs, rfl⟩ := vs_get hx
        have hm := List.mem_of_getElem? hs
        have hso := (oks_iff l).mp hok sp hm
        have hdm := dps_mem hm
        have ec := cnts_take hs
        refine ⟨_, [some (.tup (vsOf l)), some (.int (cnts (l.take (i + 1)))), some sp.v], s, rfl, .inl ?_, rfl, _, rfl⟩
        rw [ec]
        cases sp with
        | br op y ys ns =>
          unfold Sp.Ok at hso
          unfold Sp.dp at hdm
          have e1 := ih (m - 1) (by omega) n (by omega) ys s hso.2.2.2.1 (by omega)
          have e2 := ih (m - 1) (by omega) n (by omega) ns s hso.2.2.2.2 (by omega)
          have e3 := hb (.br op y ys ns) s (by unfold Sp.Ok; exact hso)
          simp [b18_0, Sp.v, Sp.isBr] at e3 ⊢
          simp [e3, e1, e2, Sp.cnt]
          omega
        | leaf op r =>
          have e3 := hb (.leaf op r) s hso
          simp [b18_0, Sp.v, Sp.isBr] at e3 ⊢
          simp [e3, Sp.cnt]
        | go q =>
          have e3 := hb (.go q) s hso
          simp [b18_0, Sp.v, Sp.isBr] at e3 ⊢
          simp [e3, Sp.cnt]) [some (.tup (vsOf l)), some (.int 0), none] st ⟨rfl, none, by simp [cnts]⟩
    subst hs'
    have hf : tabOf (eVar 0) [some (.tup (vsOf l)), some (.int 0), none] st' = none := tabOf_tup rfl
    simp [m18, sForA_seq hf, e, gcR_flat0, vs_len]
end W64
namespace W64
open PySem PySem.Spec L2 EV

/-! ### dies -/
def fr (a b : Int) : Val := .tup [.int a, .int b]
def dies : List Val := [.tup [.str "till", fr 1 2], .tup [.str "till", fr 2 7], .tup [.str "die", .tup [.tup [.int 0, fr 1 2], .tup [.int 1, fr 1 2]]], .tup [.str "die", .tup [.tup [.int 9, fr 1 1]]],
  .tup [.str "die", .tup [.tup [.int 0, fr 1 3], .tup [.int 4, fr 2 3]]], .tup [.str "die", .tup [.tup [.int 2, fr 1 7], .tup [.int 8, fr 6 7]]]]
def DieOk (f : Fun1) : Prop := ∀ (u d : Nat) (st : Store), IsUrn u d st → ∃ v st', f [.ref u] st = .ok v st' ∧ URs u d st st' ∧ v ∈ dies
theorem dies_fine : ∀ v ∈ dies, v.fine = true ∧ v.tl ≤ 900 ∧ v.dep ≤ 4 := by decide +kernel
theorem die_ok {C : Nat → Fun1} (hP : PickOk (C 15)) : DieOk (runF (m19 C) 2) := by
  intro u d st hu
  have lu := hu.u_lt
  have ld := hu.d_lt
  have e : ∃ t : Store, t.length = 3 ∧ t[2]? = some (.lst dies) ∧ runF (m19 C) 2 [.ref u] st = gcR st (C 15 [.ref u, .ref (st.length + 2)] (st ++ t)) := by
    refine ⟨[.lst (dies.take 4), .lst (dies.drop 4), .lst dies], rfl, rfl, ?_⟩
    simp [m19, dies, fr, oAdd_ref, kAddR_ll]
    generalize C 15 _ _ = r
    cases r <;> rfl
  obtain ⟨t, ht, h2, e⟩ := e
  obtain ⟨v, st', e1, h1, hv⟩ := hP u d (st.length + 2) (st ++ t) dies (hu.app t) (by rw [app_at]; exact h2) (by omega) (by omega) (by simp [dies]) (by decide) (by decide)
  have hf := dies_fine v hv
  obtain ⟨g1, g2⟩ := gcR_urn hu (UR.of_app hu h1.toUR) (Val.fine_flat v hf.1)
  exact ⟨v, _, by rw [e, e1, g1], g2, hv⟩
end W64
namespace W64
open PySem PySem.Spec L2 EV
def GoodSp (deep B : Nat) (names : List Str) (s : Sp) : Prop := s.Ok ∧ s.dp ≤ deep ∧ s.v.tl ≤ B ∧ s.v.dep ≤ 6 + 3 * deep ∧ ∀ n, s = .go n → n ∈ names
def StepOk (f : Fun1) (deep B : Nat) : Prop := ∀ (u d q : Nat) (st : Store) (many : Int) (names : List Str), IsUrn u d st → 1 ≤ many → many ≤ 3 → st[q]? = some (.lst (names.map Val.str)) → q ≠ u → q ≠ d → names.length ≤ 100 → (∀ n ∈ names, (Val.str n).fine = true) →
  ∃ (s : Sp) (st' : Store), f [.ref u, .int many, .int (deep : Int), .ref q] st = .ok s.v st' ∧ URs u d st st' ∧ GoodSp deep B names s
def StepsOk (f : Fun1) (deep B : Nat) : Prop := ∀ (u d q : Nat) (st : Store) (many : Int) (names : List Str), IsUrn u d st → 1 ≤ many → many ≤ 3 → st[q]? = some (.lst (names.map Val.str)) → q ≠ u → q ≠ d → names.length ≤ 100 → (∀ n ∈ names, (Val.str n).fine = true) →
  ∃ (l : List Sp) (st' : Store), f [.ref u, .int many, .int (deep : Int), .ref q] st = .ok (.tup (vsOf l)) st' ∧ URs u d st st' ∧ l.length ≤ 3 ∧ ∀ s ∈ l, GoodSp deep B names s
theorem pickL {f : Fun1} (hP : PickOk f) {u d : Nat} {st : Store} (hu : IsUrn u d st) (xs : List Val) (h0 : xs ≠ []) (hl : xs.length ≤ 1000) (hf : flatAll xs = true) : ∃ x st', f [.ref u, .ref st.length] (st ++ [.lst xs]) = .ok x st' ∧ UR u d st st' ∧ x ∈ xs := by
  have lu := hu.u_lt
  have ld := hu.d_lt
  obtain ⟨x, st', e, h, hx⟩ := hP u d st.length (st ++ [.lst xs]) xs (hu.app _) (by simp) (by omega) (by omega) h0 hl hf
  exact ⟨x, st', e, UR.of_app hu h.toUR, hx⟩
theorem fine_s1 : (Val.str ("set" : Str)).fine = true ∧ (Val.str ("add" : Str)).fine = true ∧ (Val.str ("less" : Str)).fine = true ∧ (Val.str ("throw" : Str)).fine = true ∧ (Val.str ("sum" : Str)).fine = true ∧ (Val.str ("seen" : Str)).fine = true ∧ (Val.str ("if" : Str)).fine = true ∧ (Val.str ("either" : Str)).fine = true ∧ (Val.str ("below" : Str)).fine = true ∧ (Val.str ("from" : Str)).fine = true := by decide +kernel
theorem leaf_good {deep B : Nat} {names : List Str} {op : Str} {r : List Val} (h : op ≠ "do" ∧ op ≠ "if" ∧ op ≠ "either") (hf : (Val.str op).fine = true) (hr : fineAll r = true) (ht : tlAll r + 64 ≤ B) (hd : depAll r + 1 ≤ 6 + 3 * deep) : GoodSp deep B names (.leaf op r) := by
  refine ⟨by unfold Sp.Ok; exact ⟨h, by simp [hf, hr]⟩, by unfold Sp.dp; omega, by unfold Sp.v; simp; omega, by unfold Sp.v; simp; omega, fun n e => by cases e⟩
theorem step_ok {C : Nat → Fun1} (deep B B' : Nat) (hd : deep ≤ 1) (hT : TakeOk (C 14)) (hP : PickOk (C 15)) (hD : DieOk (C 19)) (hS : deep ≠ 0 → StepsOk (C 21) (deep - 1) B') (hB : 2000 ≤ B) (hB' : deep ≠ 0 → 6 * (B' + 2) + 1000 ≤ B) : StepOk (runF (m20 C) 9) deep B := by
  intro u d q st many names hu m1 m3 hq q1 q2 hnl hnf
  obtain ⟨f1, f2, f3, f4, f5, f6, f7, f8, f9, f10⟩ := fine_s1
  obtain ⟨k1, s1, e1, r1, a1, b1⟩ := hT u d st many hu (by omega)
  have b1 : k1 < 3 := by omega
  have hk1 : (Val.int k1).fine = true := fine_int a1 (by omega)
  obtain ⟨k2, s2, e2, r2, a2, b2⟩ := hT u d s1 10 r1.urn (by omega)
  have b2 : k2 < 10 := by omega
  have r12 : UR u d st s2 := r1.toUR.trans r2.toUR
  have key : ∃ (s : Sp) (st' : Store), runF (m20 C) 9 [.ref u, .int many, .int (deep : Int), .ref q] st = gcR st (.ok s.v st') ∧ UR u d st st' ∧ GoodSp deep B names s := by
    by_cases c0 : k2 = 0
    · subst c0
      obtain ⟨x, s3, e3, r3, hx⟩ := pickL hP r2.urn [.int 0, .int 1, .int 7, .int 20] (by simp) (by simp) (by simp)
      refine ⟨.leaf "set" [.int k1, x], s3, ?_, r12.trans r3, leaf_good (by decide +kernel) f1 ?_ ?_ ?_⟩
      · simp [m20, e1, e2, e3, Sp.v]
      · have : x.fine = true := by simp at hx; rcases hx with rfl | rfl | rfl | rfl <;> exact fine_int (by decide) (by decide)
        simp [hk1, this]
      · simp at hx; rcases hx with rfl | rfl | rfl | rfl <;> (simp; omega)
      · simp at hx; rcases hx with rfl | rfl | rfl | rfl <;> (simp; omega)
    by_cases c1 : k2 = 1
    · subst c1
      obtain ⟨x, s3, e3, r3, hx⟩ := pickL hP r2.urn [.int 1, .int 2, .int 20] (by simp) (by simp) (by simp)
      refine ⟨.leaf "add" [.int k1, x], s3, ?_, r12.trans r3, leaf_good (by decide +kernel) f2 ?_ ?_ ?_⟩
      · simp [m20, e1, e2, e3, Sp.v]
      · have : x.fine = true := by simp at hx; rcases hx with rfl | rfl | rfl <;> exact fine_int (by decide) (by decide)
        simp [hk1, this]
      · simp at hx; rcases hx with rfl | rfl | rfl <;> (simp; omega)
      · simp at hx; rcases hx with rfl | rfl | rfl <;> (simp; omega)
    by_cases c2 : k2 = 2
    · subst c2
      refine ⟨.leaf "less" [.int k1], s2, ?_, r12, leaf_good (by decide +kernel) f3 (by simp [hk1]) (by simp; omega) (by simp; omega)⟩
      simp [m20, e1, e2, Sp.v]
    by_cases c3 : k2 = 3
    · subst c3
      obtain ⟨x, s3, e3, r3, hx⟩ := hD u d s2 r2.urn
      obtain ⟨g1, g2, g3⟩ := dies_fine x hx
      refine ⟨.leaf "throw" [.int k1, x], s3, ?_, r12.trans r3.toUR, leaf_good (by decide +kernel) f4 (by simp [hk1, g1]) (by simp; omega) (by simp; omega)⟩
      simp [m20, e1, e2, e3, Sp.v]
    by_cases c4 : k2 = 4
    · subst c4
      obtain ⟨x, s3, e3, r3, hx⟩ := hD u d s2 r2.urn
      obtain ⟨g1, g2, g3⟩ := dies_fine x hx
      obtain ⟨k3, s4, e4, r4, a4, b4⟩ := hT u d s3 many r3.urn (by omega)
      have hk3 : (Val.int k3).fine = true := fine_int a4 (by omega)
      refine ⟨.leaf "sum" [.int k1, x, .int k3], s4, ?_, (r12.trans r3.toUR).trans r4.toUR, leaf_good (by decide +kernel) f5 (by simp [hk1, g1, hk3]) (by simp; omega) (by simp; omega)⟩
      simp [m20, e1, e2, e3, e4, Sp.v]
    obtain ⟨k3, s3, e3, r3, a3, b3⟩ := hT u d s2 many r2.urn (by omega)
    obtain ⟨x, s4, e4, r4, hx⟩ := pickL hP r3.urn [.str "below", .str "from"] (by simp) (by simp) (by simp)
    obtain ⟨k4, s5, e5, r5, a5, b5⟩ := hT u d s4 4 r4.urn (by omega)
    have hk3 : (Val.int k3).fine = true := fine_int a3 (by omega)
    have hk4 : (Val.int (1 + k4)).fine = true := fine_int (by omega) (by omega)
    have hxf : x.fine = true ∧ x.tl = 60 ∧ x.dep = 0 := by
      simp at hx
      rcases hx with rfl | rfl
      · exact ⟨f9, by simp, by simp⟩
      · exact ⟨f10, by simp, by simp⟩
    have r15 : UR u d st s5 := ((r12.trans r3.toUR).trans r4).trans r5.toUR
    let t : Val := .tup [.int k3, x, .int (1 + k4)]
    have tf : t.fine = true := by simp [t, hk3, hxf.1, hk4]
    have tt : t.tl = 188 := by simp [t, hxf.2.1]
    have td : t.dep = 1 := by simp [t, hxf.2.2]
    by_cases c5 : k2 = 5 ∨ (deep = 0 ∧ k2 < 8)
    · refine ⟨.leaf "seen" [t], s5, ?_, r15, leaf_good (by decide +kernel) f6 (by simp [tf]) (by simp [tt]; omega) (by simp [td]; omega)⟩
      rcases c5 with rfl | ⟨rfl, c5⟩
      · simp [m20, e1, e2, e3, e4, e5, Sp.v, t]
      · by_cases c6 : k2 = 5
        · subst c6
          simp [m20, e1, e2, e3, e4, e5, Sp.v, t]
        · simp [m20, e1, e2, e3, e4, e5, Sp.v, t, c0, c1, c2, c3, c4, c5, c6]
    · have c6 : ¬ k2 = 5 := fun q => c5 (.inl q)
      by_cases c7 : k2 < 8
      · have dn : deep ≠ 0 := fun q => c5 (.inr ⟨q, c7⟩)
        have d1 : deep = 1 := by omega
        subst d1
        have lu := hu.u_lt
        have ld := hu.d_lt
        have l5 := r15.len
        obtain ⟨ys, s6, e6, r6, g6, h6⟩ := hS dn u d s5.length (s5 ++ [.lst []]) many [] (r15.urn.app _) m1 m3 (by simp) (by omega) (by omega) (by simp) (by simp)
        obtain ⟨ns, s7, e7, r7, g7, h7⟩ := hS dn u d s6.length (s6 ++ [.lst []]) many [] (r6.urn.app _) m1 m3 (by simp) (by have := r6.same; simp at this; omega) (by have := r6.same; simp at this; omega) (by simp) (by simp)
        have r17 : UR u d st s7 := ((r15.app _).trans r6.toUR).trans (UR.of_app r6.urn r7.toUR)
        have ok1 : oks ys := (oks_iff ys).mpr fun s hs => (h6 s hs).1
        have ok2 : oks ns := (oks_iff ns).mpr fun s hs => (h7 s hs).1
        have dp1 : dps ys = 0 ∧ dps ns = 0 := by
          have go : ∀ l : List Sp, (∀ s ∈ l, s.dp = 0) → dps l = 0 := fun l => by
            induction l with
            | nil => intro _; rw [dps]
            | cons a r ih => intro h; rw [dps, h a (List.mem_cons_self ..), ih fun s hs => h s (List.mem_cons_of_mem _ hs)]; rfl
          exact ⟨go ys fun s hs => Nat.le_zero.mp (h6 s hs).2.1, go ns fun s hs => Nat.le_zero.mp (h7 s hs).2.1⟩
        have tl1 : ∀ l : List Sp, l.length ≤ 3 → (∀ s ∈ l, GoodSp (1 - 1) B' [] s) → tlAll (vsOf l) ≤ 3 * (B' + 2) ∧ depAll (vsOf l) ≤ 6 := fun l hl h => by
          have h1 : tlAll (vsOf l) ≤ (vsOf l).length * (B' + 2) := tlAll_le fun x hx => by
            rw [vsOf_map] at hx
            obtain ⟨s, hs, rfl⟩ := List.mem_map.mp hx
            exact (h s hs).2.2.1
          have h2 : depAll (vsOf l) ≤ 6 := depAll_le fun x hx => by
            rw [vsOf_map] at hx
            obtain ⟨s, hs, rfl⟩ := List.mem_map.mp hx
            exact (h s hs).2.2.2.1
          rw [vs_len] at h1
          exact ⟨Nat.le_trans h1 (Nat.mul_le_mul_right _ hl), h2⟩
        obtain ⟨t1, t2⟩ := tl1 ys g6 h6
        obtain ⟨t3, t4⟩ := tl1 ns g7 h7
        have hBB := hB' dn
        by_cases c8 : k2 = 6
        · subst c8
          refine ⟨.br "if" t ys ns, s7, ?_, r17, by unfold Sp.Ok; exact ⟨.inl rfl, f7, tf, ok1, ok2⟩, by unfold Sp.dp; rw [dp1.1, dp1.2]; decide, ?_, ?_, fun n e => by cases e⟩
          · simp at e6 e7
            simp [m20, e1, e2, e3, e4, e5, e6, e7, Sp.v, t]
          · unfold Sp.v; simp [tt]; omega
          · unfold Sp.v; simp [td]; omega
        · obtain ⟨y, s8, e8, r8, hy⟩ := pickL hP r7.urn [fr 1 2, fr 1 97, fr 3 4] (by simp) (by simp) (by simp [fr])
          have hyf : y.fine = true ∧ y.tl = 126 ∧ y.dep = 1 := by
            have : ∀ z ∈ [fr 1 2, fr 1 97, fr 3 4], z.fine = true ∧ z.tl = 126 ∧ z.dep = 1 := by decide +kernel
            exact this y hy
          refine ⟨.br "either" y ys ns, s8, ?_, r17.trans r8, by unfold Sp.Ok; exact ⟨.inr rfl, f8, hyf.1, ok1, ok2⟩, by unfold Sp.dp; rw [dp1.1, dp1.2]; decide, ?_, ?_, fun n e => by cases e⟩
          · simp at e6 e7
            simp [fr] at e8
            simp [m20, e1, e2, e3, e4, e5, e6, e7, e8, Sp.v, t, c0, c1, c2, c3, c4, c6, c7, c8]
          · unfold Sp.v; simp [hyf.2.1]; omega
          · unfold Sp.v; simp [hyf.2.2]; omega
      · have hq5 := r15.at_ hq q1 q2
        by_cases cn : names = []
        · subst cn
          refine ⟨.leaf "less" [.int k1], s5 ++ [.lst []], ?_, r15.app _, leaf_good (by decide +kernel) f3 (by simp [hk1]) (by simp; omega) (by simp; omega)⟩
          rcases (by omega : deep = 0 ∨ deep = 1) with rfl | rfl <;> simp [m20, e1, e2, e3, e4, e5, Sp.v, c0, c1, c2, c3, c4, c6, c7, oNe_nil (app_old hq5)]
        · obtain ⟨y, s6, e6, r6, hy⟩ := hP u d q (s5 ++ [.lst []]) (names.map Val.str) (r15.urn.app _) (app_old hq5) q1 q2 (by simpa using cn) (by simp; omega) (by rw [flatAll_iff]; intro z hz; obtain ⟨n, _, rfl⟩ := List.mem_map.mp hz; simp)
          obtain ⟨n, hn, rfl⟩ := List.mem_map.mp hy
          have ie : names.isEmpty = false := by cases names with
            | nil => exact absurd rfl cn
            | cons a b => rfl
          refine ⟨.go n, s6, ?_, (r15.app _).trans r6.toUR, by unfold Sp.Ok; exact hnf n hn, by unfold Sp.dp; omega, by unfold Sp.v; simp; omega, by unfold Sp.v; simp; omega, fun n' e => by cases e; exact hn⟩
          rcases (by omega : deep = 0 ∨ deep = 1) with rfl | rfl <;> simp [m20, e1, e2, e3, e4, e5, e6, Sp.v, c0, c1, c2, c3, c4, c6, c7, oNe_nil (app_old hq5), ie]
  obtain ⟨s, st', e, r, g⟩ := key
  obtain ⟨g1, g2⟩ := gcR_urn hu r (Val.fine_flat _ (Sp.fine s g.1))
  exact ⟨s, _, e.trans g1, g2, g⟩
end W64
namespace W64
open PySem PySem.Spec L2 EV
theorem steps_ok {C : Nat → Fun1} (deep B : Nat) (hP : PickOk (C 15)) (hS : StepOk (C 20) deep B) : StepsOk (runF (m21 C) 5) deep B := by
  intro u d q st many names hu m1 m3 hq q1 q2 hnl hnf
  obtain ⟨x, s1, e1, r1, hx⟩ := pickL hP hu [.int 0, .int 1, .int 1, .int 2, .int 3] (by simp) (by simp) (by simp)
  obtain ⟨k, rfl, hk⟩ : ∃ k : Nat, x = .int (k : Int) ∧ k ≤ 3 := by
    simp at hx
    rcases hx with rfl | rfl | rfl | rfl
    · exact ⟨0, rfl, by omega⟩
    · exact ⟨1, rfl, by omega⟩
    · exact ⟨2, rfl, by omega⟩
    · exact ⟨3, rfl, by omega⟩
  obtain ⟨ys, s2, e2, h2, l, rfl, hl, hg⟩ := comp_rule (s := .vals (rangeL 0 k)) (g := gSlot 4) (t := tTrue) (e := e21_0 C) (ρ := [some (.ref u), some (.int many), some (.int (deep : Int)), some (.ref q), none])
    (fun i s acc => UR u d st s ∧ ∃ l : List Sp, acc = vsOf l ∧ l.length = i ∧ ∀ s ∈ l, GoodSp deep B names s) (rangeL 0 k) (fun _ _ _ _ => trivial) (by
      rintro i x s acc hx ⟨hs, l, rfl, hl, hg⟩
      obtain ⟨sp, s2, e2, r2, g2⟩ := hS u d q s many names hs.urn m1 m3 (hs.at_ hq q1 q2) q1 q2 hnl hnf
      refine ⟨_, rfl, .inl ⟨s, sp.v, s2, rfl, ?_, hs.trans r2.toUR, l ++ [sp], ?_, by simp [hl], ?_⟩⟩
      · simp [e21_0, e2]
      · simp [vsOf_map]
      · intro s hs
        rcases List.mem_append.mp hs with h | h
        · exact hg s h
        · rw [List.mem_singleton.mp h]; exact g2) s1 ⟨r1, [], by rw [vsOf], rfl, by simp⟩
  rw [rangeL_len] at hl
  have ho : oks l := (oks_iff l).mpr fun s hs => (hg s hs).1
  have hlen : (vsOf l).length ≤ sizeLine := by rw [vs_len, hl, szl]; omega
  have hrange : inRange (k : Int) := ⟨by omega, by omega⟩
  obtain ⟨g1, g2⟩ := gcR_urn (x := .tup (vsOf l)) hu (h2.app [.lst (vsOf l)]) (by simp; exact fineAll_flat _ (oks_fine l ho))
  refine ⟨l, _, ?_, g2, by omega, hg⟩
  rw [← g1]
  simp [m21, e1, hrange, e2, jComp_ok hlen, nTuple_ref, kTupR_l]
end W64
namespace W64
open PySem PySem.Spec L2 EV
def pool1 : List Str := ["x", "y", "n", "a", "so", "abcdefgh", "zz", "dodo", "ifs", "told", "from", "below", "z", "w", "pq", "elses"]
def pool2 : List Str := ["skipp", "tills", "b", "c", "d", "e", "f", "g", "h"]
def pool : List Str := pool1 ++ pool2
theorem pool_nd : pool.Nodup := by decide +kernel
theorem pool_fine : ∀ n ∈ pool, (Val.str n).fine = true := by decide +kernel
theorem flat_strs (ns : List Str) : flatAll (ns.map Val.str) = true := by
  rw [flatAll_iff]; intro x hx; obtain ⟨n, _, rfl⟩ := List.mem_map.mp hx; simp
def strOf : Val → Str
  | .str n => n
  | _ => ""
theorem strOf_map (l : List Str) : (l.map Val.str).map strOf = l := by
  rw [List.map_map]
  have : strOf ∘ Val.str = id := rfl
  rw [this, List.map_id]
def NamesOk (f : Fun1) : Prop := ∀ (u d : Nat) (st : Store) (m : Nat), IsUrn u d st → m ≤ 25 → ∃ (ns : List Str) (st' : Store), f [.ref u, .int (m : Int)] st = .ok (.ref st.length) (st' ++ [.lst (ns.map Val.str)]) ∧ URs u d st st' ∧ ns.Nodup ∧ (∀ n ∈ ns, n ∈ pool) ∧ ns.length = m
theorem names_ok {C : Nat → Fun1} (hM : MixOk (C 16)) : NamesOk (runF (m22 C) 3) := by
  intro u d st m hu hm
  have lu := hu.u_lt
  have ld := hu.d_lt
  let t : Store := [.lst (pool1.map Val.str), .lst (pool2.map Val.str), .lst (pool.map Val.str)]
  obtain ⟨ys, s1, e1, r1, hp⟩ := hM u d (st.length + 2) (st ++ t) (pool.map Val.str) (hu.app t) (by rw [app_at]; rfl) (by omega) (by omega) (flat_strs _) (by decide)
  have hz := hp.map strOf
  rw [strOf_map] at hz
  have hy : ys = (ys.map strOf).map Val.str := by
    rw [List.map_map]
    refine (List.map_id ys).symm.trans (List.map_congr_left fun y hy => ?_)
    obtain ⟨n, _, rfl⟩ := List.mem_map.mp (hp.mem_iff.mp hy)
    rfl
  generalize ys.map strOf = zs at hz hy
  subst hy
  have hzl : zs.length = 25 := by rw [hz.length_eq]; decide
  have l1 := r1.same
  have hl1 : s1.length = st.length + 3 := by rw [l1]; simp [t]
  have q1 : (s1 ++ [.lst (zs.map Val.str)])[st.length + 3]? = some (.lst (zs.map Val.str)) := by
    rw [← hl1, app_at0]; rfl
  have hr : UR u d st (s1 ++ [.lst (zs.map Val.str)] ++ [.lst ((zs.map Val.str).take m)]) := by
    rw [List.append_assoc]; exact (UR.of_app hu r1.toUR).app _
  obtain ⟨s2, g1, g2⟩ := gcR_urnL (r := st.length + 4) (ys := (zs.take m).map Val.str) hu hr (by omega) (by
    have : st.length + 4 = (s1 ++ [Cell.lst (zs.map Val.str)]).length := by rw [List.length_append, hl1]; rfl
    rw [this, app_at0, List.map_take]; rfl) (flat_strs _)
  refine ⟨zs.take m, s2, ?_, g2, (List.take_sublist m zs).nodup (hz.nodup_iff.mpr pool_nd), fun n hn => hz.mem_iff.mp (List.mem_of_mem_take hn), by rw [List.length_take]; omega⟩
  rw [← g1]
  have e2 : slOf (.ref (st.length + 3)) none (some (m : Int)) (s1 ++ [.lst (zs.map Val.str)]) = some (.ref (st.length + 4), s1 ++ [.lst (zs.map Val.str)] ++ [.lst ((zs.map Val.str).take m)]) := by
    rw [slOf_list q1 (by rw [List.length_map]; omega), List.length_append, hl1]; rfl
  simp [t, pool, pool1, pool2] at e1
  simp [m22, oAdd_ref, kAddR_ll, e1, e2]
end W64
namespace W64
open PySem PySem.Spec L2 EV
theorem UR.set {u d k : Nat} {c : Cell} {st s : Store} (hu : IsUrn u d st) (hk : st.length ≤ k) (h : UR u d st s) : UR u d st (s.set k c) := by
  have lu := hu.u_lt
  have ld := hu.d_lt
  obtain ⟨a, b, ns, e1, e2, e3⟩ := h.urn.ex
  exact ⟨by rw [List.length_set]; exact h.len, fun r r1 r2 r3 => by rw [List.getElem?_set_ne (by omega)]; exact h.old r r1 r2 r3, h.urn.ne, a, b, ns, by rw [List.getElem?_set_ne (by omega)]; exact e1, by rw [List.getElem?_set_ne (by omega)]; exact e2, e3⟩
inductive Pt where
  | prog (n : Str) (ss : List Sp)
  | loop (n : Str) (t : Val) (ss told : List Sp) (w : Val)
def Pt.v : Pt → Val
  | .prog n ss => .tup [.str "program", .str n, .tup (vsOf ss)]
  | .loop n t ss told w => .tup [.str "loop", .str n, t, .tup (vsOf ss), .tup (vsOf told), w]
def Pt.name : Pt → Str
  | .prog n _ => n
  | .loop n _ _ _ _ => n
def Pt.told : Pt → List Sp
  | .prog _ ss => ss
  | .loop _ _ _ told _ => told
def Pt.all : Pt → List Sp
  | .prog _ ss => ss
  | .loop _ _ ss told _ => ss ++ told
/-- a part, given the names ahead of it -/
structure PtOk (ns : List Str) (p : Pt) : Prop where
  sp : ∀ s ∈ p.all, GoodSp 1 100000 ns s
  len : p.all.length ≤ 6
  fine : p.v.fine = true
  tl : p.v.tl ≤ 1000000
  dep : p.v.dep ≤ 20
structure BookOk (ps : List Pt) : Prop where
  nd : (ps.map Pt.name).Nodup
  len : ps.length ≤ 6
  ok : ∀ i p, ps[i]? = some p → PtOk ((ps.take i).map Pt.name) p
def bookV (nm : List Val) (ps : List Pt) : Val := .tup [.tup nm, .tup (ps.map Pt.v)]
def BookDraw (f : Fun1) : Prop := ∀ (u d : Nat) (st : Store), IsUrn u d st → ∃ (nm : List Val) (ps : List Pt) (st' : Store), f [.ref u, .int 6] st = .ok (bookV nm ps) st' ∧ URs u d st st' ∧ BookOk ps ∧ fineAll nm = true ∧ nm.length ≤ 3 ∧ (∀ x ∈ nm, x.tl = 60 ∧ x.dep = 0)
theorem fine_pl : (Val.str ("program" : Str)).fine = true ∧ (Val.str ("loop" : Str)).fine = true := by decide +kernel
theorem good_tl {ns : List Str} {l : List Sp} (h : ∀ s ∈ l, GoodSp 1 100000 ns s) (hl : l.length ≤ 3) : tlAll (vsOf l) ≤ 300006 ∧ depAll (vsOf l) ≤ 9 := by
  have h1 : tlAll (vsOf l) ≤ (vsOf l).length * (100000 + 2) := tlAll_le fun x hx => by
    rw [vsOf_map] at hx
    obtain ⟨s, hs, rfl⟩ := List.mem_map.mp hx
    exact (h s hs).2.2.1
  have h2 : depAll (vsOf l) ≤ 9 := depAll_le fun x hx => by
    rw [vsOf_map] at hx
    obtain ⟨s, hs, rfl⟩ := List.mem_map.mp hx
    exact (h s hs).2.2.2.1
  rw [vs_len] at h1
  have : l.length * (100000 + 2) ≤ 3 * (100000 + 2) := Nat.mul_le_mul_right _ hl
  exact ⟨by omega, h2⟩
theorem prog_ok {ns : List Str} {n : Str} {ss : List Sp} (hn : (Val.str n).fine = true) (h : ∀ s ∈ ss, GoodSp 1 100000 ns s) (hl : ss.length ≤ 3) : PtOk ns (.prog n ss) := by
  obtain ⟨h1, h2⟩ := good_tl h hl
  exact ⟨h, show ss.length ≤ 6 by omega, by simp [Pt.v, fine_pl.1, hn, oks_fine ss ((oks_iff ss).mpr fun s hs => (h s hs).1)], by simp [Pt.v]; omega, by simp [Pt.v]; omega⟩
theorem loop_ok {ns : List Str} {n : Str} {t w : Val} {ss told : List Sp} (hn : (Val.str n).fine = true) (h : ∀ s ∈ ss, GoodSp 1 100000 ns s) (hl : ss.length ≤ 3) (h' : ∀ s ∈ told, GoodSp 1 100000 ns s) (hl' : told.length ≤ 3)
    (ht : t.fine = true ∧ t.tl ≤ 1000 ∧ t.dep ≤ 3) (hw : w.fine = true ∧ w.tl ≤ 1000 ∧ w.dep ≤ 3) : PtOk ns (.loop n t ss told w) := by
  obtain ⟨h1, h2⟩ := good_tl h hl
  obtain ⟨h3, h4⟩ := good_tl h' hl'
  refine ⟨fun s hs => ?_, by show (ss ++ told).length ≤ 6; rw [List.length_append]; omega, by simp [Pt.v, fine_pl.2, hn, ht.1, hw.1, oks_fine ss ((oks_iff ss).mpr fun s hs => (h s hs).1), oks_fine told ((oks_iff told).mpr fun s hs => (h' s hs).1)], by simp [Pt.v]; omega, by simp [Pt.v]; omega⟩
  unfold Pt.all at hs
  rcases List.mem_append.mp hs with q | q
  · exact h s q
  · exact h' s q
/-- one part is drawn -/
theorem part_ok {C : Nat → Fun1} (hT : TakeOk (C 14)) (hP : PickOk (C 15)) (hS : StepsOk (C 21) 1 100000) {u d pr kr : Nat} {st : Store} {many : Nat} {n : Str} {ps : List Pt} {ns : List Str} {a0 a1 a2 a3 : Option Val} {b0 b1 b2 b3 b4 : Option Val}
    (hu : IsUrn u d st) (m1 : 1 ≤ many) (m3 : many ≤ 3) (hp : st[pr]? = some (.lst (ps.map Pt.v))) (hk : st[kr]? = some (.lst (ns.map Val.str))) (p1 : pr ≠ u) (p2 : pr ≠ d) (k1 : kr ≠ u) (k2 : kr ≠ d) (pk : pr ≠ kr)
    (hn : (Val.str n).fine = true) (hns : ∀ n ∈ ns, (Val.str n).fine = true) (lns : ns.length ≤ 50) (lps : ps.length ≤ 50) :
    ∃ (p : Pt) (c1 c2 c3 c4 c5 : Option Val) (s : Store), b23_1 C [some (.ref u), a0, some (.int (many : Int)), a1, a2, some (.ref pr), some (.ref kr), some (.str n), b0, b1, b2, b3, b4] st =
      .nx [some (.ref u), a0, some (.int (many : Int)), a1, a2, some (.ref pr), some (.ref kr), some (.str n), c1, c2, c3, c4, c5] ((s.set pr (.lst ((ps ++ [p]).map Pt.v))).set kr (.lst ((ns ++ [n]).map Val.str))) ∧ UR u d st s ∧ PtOk ns p ∧ p.name = n := by
  obtain ⟨ss, s1, e1, r1, l1, g1⟩ := hS u d kr st many ns hu (by omega) (by omega) hk k1 k2 (by omega) hns
  obtain ⟨z, s2, e2, r2, _, z2⟩ := hT u d s1 2 r1.urn (by omega)
  have hz0 : 0 ≤ z ∧ z < 2 := by omega
  simp at e1
  have r12 : UR u d st s2 := r1.toUR.trans r2.toUR
  by_cases hz : z = 0
  · subst hz
    have q1 := r12.at_ hp p1 p2
    have q2 := r12.at_ hk k1 k2
    have q3 : (s2.set pr (.lst ((ps ++ [Pt.prog n ss]).map Pt.v)))[kr]? = some (.lst (ns.map Val.str)) := set_old q2 pk.symm
    have q4 : (ns.map Val.str).length < 16777216 := by rw [List.length_map]; omega
    have q5 : (ps.map Pt.v).length < 16777216 := by rw [List.length_map]; omega
    refine ⟨.prog n ss, some (.tup (vsOf ss)), b1, b2, b3, b4, s2, ?_, r12, prog_ok hn g1 l1, rfl⟩
    simp [Pt.v] at q3
    simp at q4 q5
    simp [b23_1, e1, e2, q1, q2, mAppend_ref, kAppR_l, q5, q4, q3, Pt.v]
  · have hz1 : z = 1 := by omega
    subst hz1
    obtain ⟨k3, s3, e3, r3, a3', b3'⟩ := hT u d s2 many r2.urn (by omega)
    obtain ⟨x, s4, e4, r4, hx⟩ := pickL hP r3.urn [.str "below", .str "from"] (by simp) (by simp) (by simp)
    obtain ⟨k4, s5, e5, r5, a5, b5⟩ := hT u d s4 4 r4.urn (by omega)
    have hk3 : (Val.int k3).fine = true := fine_int a3' (by omega)
    have hk4 : (Val.int (1 + k4)).fine = true := fine_int (by omega) (by omega)
    obtain ⟨_, _, _, _, _, _, _, _, f9, f10⟩ := fine_s1
    have hxf : x.fine = true ∧ x.tl = 60 ∧ x.dep = 0 := by
      simp at hx
      rcases hx with rfl | rfl
      · exact ⟨f9, by simp, by simp⟩
      · exact ⟨f10, by simp, by simp⟩
    have r15 : UR u d st s5 := ((r12.trans r3.toUR).trans r4).trans r5.toUR
    have tf : (Val.tup [.int k3, x, .int (1 + k4)]).fine = true ∧ (Val.tup [.int k3, x, .int (1 + k4)]).tl ≤ 1000 ∧ (Val.tup [.int k3, x, .int (1 + k4)]).dep ≤ 3 := by simp [hk3, hxf, hk4]
    obtain ⟨tt, s6, e6, r6, l6, g6⟩ := hS u d kr s5 many ns r5.urn (by omega) (by omega) (r15.at_ hk k1 k2) k1 k2 (by omega) hns
    simp at e6
    have r16 := r15.trans r6.toUR
    obtain ⟨ys, s7, e7, h7, l7, f7⟩ := comp_rule (s := .vals (rangeL 0 many)) (g := gSlot 12) (t := tTrue) (e := e23_0 C)
      (ρ := [some (.ref u), a0, some (.int (many : Int)), a1, a2, some (.ref pr), some (.ref kr), some (.str n), some (.tup (vsOf ss)), some (.tup [.int k3, x, .int (1 + k4)]), some (.tup (vsOf tt)), b3, none])
      (fun i s acc => UR u d st s ∧ acc.length = i ∧ ∀ y ∈ acc, y.fine = true ∧ y.tl = 126 ∧ y.dep = 1) (rangeL 0 many) (fun _ _ _ _ => trivial) (by
        rintro i y s acc hy ⟨hs, hl, hf⟩
        obtain ⟨w, s', e', r', hw⟩ := pickL hP hs.urn [fr 0 1, fr 1 1, fr 2 3, fr 7 1] (by simp) (by simp) (by simp [fr])
        have hw' : w.fine = true ∧ w.tl = 126 ∧ w.dep = 1 := by
          have : ∀ z ∈ [fr 0 1, fr 1 1, fr 2 3, fr 7 1], z.fine = true ∧ z.tl = 126 ∧ z.dep = 1 := by decide +kernel
          exact this w hw
        simp [fr] at e'
        refine ⟨_, rfl, .inl ⟨s, w, s', rfl, by simp [e23_0, e'], hs.trans r', by simp [hl], fun y hy => ?_⟩⟩
        rcases List.mem_append.mp hy with q | q
        · exact hf y q
        · rw [List.mem_singleton.mp q]; exact hw') s6 ⟨r16, rfl, by simp⟩
    rw [rangeL_len] at l7
    have w1 : fineAll ys = true := fineAll_iff.mpr fun y hy => (f7 y hy).1
    have w2 : tlAll ys ≤ ys.length * (126 + 2) := tlAll_le fun y hy => Nat.le_of_eq (f7 y hy).2.1
    have w3 : depAll ys ≤ 1 := depAll_le fun y hy => Nat.le_of_eq (f7 y hy).2.2
    have w4 : (Val.tup ys).fine = true ∧ (Val.tup ys).tl ≤ 1000 ∧ (Val.tup ys).dep ≤ 3 := ⟨by simp [w1], by rw [tl_tup]; omega, by rw [dep_tup]; omega⟩
    have hr7 : UR u d st (s7 ++ [.lst ys]) := h7.app _
    have q1 := hr7.at_ hp p1 p2
    have q2 := hr7.at_ hk k1 k2
    have q3 : ((s7 ++ [Cell.lst ys]).set pr (.lst ((ps ++ [Pt.loop n (.tup [.int k3, x, .int (1 + k4)]) ss tt (.tup ys)]).map Pt.v)))[kr]? = some (.lst (ns.map Val.str)) := set_old q2 pk.symm
    have q4 : (ns.map Val.str).length < 16777216 := by rw [List.length_map]; omega
    have q5 : (ps.map Pt.v).length < 16777216 := by rw [List.length_map]; omega
    have hrange : inRange (many : Int) := ⟨by omega, by omega⟩
    have hlen : ys.length ≤ sizeLine := by rw [szl]; omega
    refine ⟨.loop n (.tup [.int k3, x, .int (1 + k4)]) ss tt (.tup ys), some (.tup (vsOf ss)), some (.tup [.int k3, x, .int (1 + k4)]), some (.tup (vsOf tt)), some (.tup ys), b4, s7 ++ [.lst ys], ?_, hr7, loop_ok hn g1 l1 g6 l6 tf w4, rfl⟩
    let t : Val := .tup [.int k3, x, .int (1 + k4)]
    let ρ1 : Slots := [some (.ref u), a0, some (.int (many : Int)), a1, a2, some (.ref pr), some (.ref kr), some (.str n), some (.tup (vsOf ss)), b1, b2, b3, b4]
    let ρ2 : Slots := [some (.ref u), a0, some (.int (many : Int)), a1, a2, some (.ref pr), some (.ref kr), some (.str n), some (.tup (vsOf ss)), some t, b2, b3, b4]
    let ρ3 : Slots := [some (.ref u), a0, some (.int (many : Int)), a1, a2, some (.ref pr), some (.ref kr), some (.str n), some (.tup (vsOf ss)), some t, some (.tup (vsOf tt)), b3, b4]
    let ρ4 : Slots := [some (.ref u), a0, some (.int (many : Int)), a1, a2, some (.ref pr), some (.ref kr), some (.str n), some (.tup (vsOf ss)), some t, some (.tup (vsOf tt)), some (.tup ys), b4]
    unfold b23_1
    refine seq_go (ρ1 := ρ1) (st1 := s1) (by simp [e1, ρ1]) ?_
    refine seq_go (ρ1 := ρ4) (st1 := (s7 ++ [Cell.lst ys]).set pr (.lst ((ps ++ [Pt.loop n t ss tt (.tup ys)]).map Pt.v))) ?_ ?_
    · refine if_f (st1 := s2) (by simp [e2, ρ1]) ?_
      refine seq_go (ρ1 := ρ2) (st1 := s5) (by simp [e3, e4, e5, ρ1, ρ2, t]) ?_
      refine seq_go (ρ1 := ρ3) (st1 := s6) (by simp [e6, ρ2, ρ3, t]) ?_
      refine seq_go (ρ1 := ρ4) (st1 := s7 ++ [.lst ys]) (by simp [hrange, e7, jComp_ok hlen, nTuple_ref, kTupR_l, ρ3, ρ4, t]) ?_
      simp at q5
      simp [q1, mAppend_ref, kAppR_l, q5, Pt.v, ρ4, t]
    · simp [Pt.v] at q3
      simp at q4
      simp [q3, mAppend_ref, kAppR_l, q4, Pt.v, ρ4, t]
end W64
namespace W64
open PySem PySem.Spec L2 EV
theorem take_mem {α : Type} {l : List α} {i : Nat} {x : α} (h : x ∈ l.take i) : x ∈ l := List.mem_of_mem_take h
theorem book_ok {C : Nat → Fun1} (hT : TakeOk (C 14)) (hP : PickOk (C 15)) (hS : StepsOk (C 21) 1 100000) (hN : NamesOk (C 22)) : BookDraw (runF (m23 C) 13) := by
  intro u d st hu
  have lu := hu.u_lt
  have ld := hu.d_lt
  obtain ⟨k, s1, e1, r1, a1, b1⟩ := hT u d st 3 hu (by omega)
  obtain ⟨m, rfl⟩ := Int.eq_ofNat_of_zero_le a1
  have hm : 1 + m ≤ 3 := by omega
  obtain ⟨nm, s2, e2, r2, nd2, p2, l2⟩ := hN u d s1 (1 + m) r1.urn (by omega)
  have hu2 : IsUrn u d (s2 ++ [.lst (nm.map Val.str)]) := r2.urn.app _
  obtain ⟨cs, s3, e3, r3, nd3, p3, l3⟩ := hN u d (s2 ++ [.lst (nm.map Val.str)]) 6 hu2 (by omega)
  have ls1 : s1.length = st.length := r1.same
  have ls2 : s2.length = st.length := r2.same.trans ls1
  have ls3 : s3.length = st.length + 1 := by rw [r3.same]; simp [ls2]
  let s4 : Store := s3 ++ [.lst (cs.map Val.str)] ++ [.lst []] ++ [.lst []]
  have r4 : UR u d st s4 := by
    have q1 : UR u d st s2 := r1.toUR.trans r2.toUR
    have q2 : UR u d st s3 := (q1.app _).trans r3.toUR
    exact ((q2.app _).app _).app _
  have ls4 : s4.length = st.length + 4 := by simp [s4, ls3]
  obtain ⟨j, s5, e5, r5, a5, b5⟩ := hT u d s4 7 r4.urn (by omega)
  obtain ⟨z, rfl⟩ := Int.eq_ofNat_of_zero_le a5
  have hz : z ≤ 6 := by omega
  have ls5 : s5.length = st.length + 4 := r5.same.trans ls4
  have r45 : UR u d st s5 := r4.trans r5.toUR
  have c4 : s4[st.length + 1]? = some (.lst (cs.map Val.str)) ∧ s4[st.length + 2]? = some (.lst []) ∧ s4[st.length + 3]? = some (.lst []) := by
    have e : s4 = s3 ++ [.lst (cs.map Val.str), .lst [], .lst []] := by simp [s4]
    rw [e]
    refine ⟨?_, ?_, ?_⟩
    · rw [← ls3, app_at0]; rfl
    · rw [show st.length + 2 = s3.length + 1 by omega, app_at]; rfl
    · rw [show st.length + 3 = s3.length + 2 by omega, app_at]; rfl
  have c5 := r5.toUR.at_ c4.1 (by omega) (by omega)
  have c5p := r5.toUR.at_ c4.2.1 (by omega) (by omega)
  have c5k := r5.toUR.at_ c4.2.2 (by omega) (by omega)
  let ds : List Str := cs.take z
  have dsl : ds.length = z := by simp [ds, l3]; omega
  have dsf : ∀ n ∈ ds, (Val.str n).fine = true := fun n hn => pool_fine n (p3 n (take_mem hn))
  have dsn : ds.Nodup := (List.take_sublist _ _).nodup nd3
  have e6 : slOf (.ref (st.length + 1)) none (some (z : Int)) s5 = some (.ref (st.length + 4), s5 ++ [.lst (ds.map Val.str)]) := by
    rw [slOf_list c5 (by simp [l3]; omega), ls5]; simp [ds]
  obtain ⟨ρ', s7, e7, x8, x9, x10, x11, x12, x7, ps, rfl, r7, h7, h8, h9, h10, h11, h12⟩ := for_rule (s := .cell (st.length + 4) (ds.map Val.str)) (g := gSlot 7) (b := b23_1 C)
    (fun i ρ s => ∃ (x8 x9 x10 x11 x12 x7 : Option Val) (ps : List Pt), ρ = [some (.ref u), some (.int 6), some (.int ((1 + m : Nat) : Int)), some (.tup (nm.map Val.str)), some (.ref (st.length + 1)), some (.ref (st.length + 2)), some (.ref (st.length + 3)), x7, x8, x9, x10, x11, x12] ∧
      UR u d st s ∧ s[st.length + 4]? = some (.lst (ds.map Val.str)) ∧ s[st.length + 2]? = some (.lst (ps.map Pt.v)) ∧ s[st.length + 3]? = some (.lst ((ds.take i).map Val.str)) ∧ ps.map Pt.name = ds.take i ∧ (∀ i p, ps[i]? = some p → PtOk ((ps.take i).map Pt.name) p) ∧ i ≤ ds.length)
    (ds.map Val.str) (fun i ρ s ⟨_, _, _, _, _, _, _, _, _, h, _⟩ => .inl h) (by
      rintro i x ρ s hx ⟨x8, x9, x10, x11, x12, x7, ps, rfl, hs, g1, g2, g3, g4, g5, g6⟩
      rw [List.getElem?_map, Option.map_eq_some_iff] at hx
      obtain ⟨n, hn, rfl⟩ := hx
      have hi := (List.getElem?_eq_some_iff.mp hn).1
      have hnm := List.mem_of_getElem? hn
      have hps : ps.length = i := by
        have := congrArg List.length g4
        simp at this
        omega
      obtain ⟨p, y1, y2, y3, y4, y5, s', e, hr, hpk, hpn⟩ := part_ok (C := C) hT hP hS (u := u) (d := d) (pr := st.length + 2) (kr := st.length + 3) (st := s) (many := 1 + m) (n := n) (ps := ps) (ns := ds.take i)
        (a0 := some (.int 6)) (a1 := some (.tup (nm.map Val.str))) (a2 := some (.ref (st.length + 1))) (a3 := none) (b0 := x8) (b1 := x9) (b2 := x10) (b3 := x11) (b4 := x12)
        hs.urn (by omega) hm g2 g3 (by omega) (by omega) (by omega) (by omega) (by omega) (dsf n hnm) (fun n h => dsf n (take_mem h)) (by rw [List.length_take]; omega) (by omega)
      have hst : ds.take (i + 1) = ds.take i ++ [n] := by rw [List.take_succ, hn]; rfl
      have hl' : s.length ≤ s'.length := hr.len
      have q1 := hr.at_ g1 (by omega) (by omega)
      have q2 := hr.at_ g2 (by omega) (by omega)
      have q3 := hr.at_ g3 (by omega) (by omega)
      refine ⟨_, _, _, rfl, .inl e, y1, y2, y3, y4, y5, some (.str n), ps ++ [p], rfl, UR.set hu (by omega) (UR.set hu (by omega) (hs.trans hr)), ?_, ?_, ?_, ?_, ?_, hi⟩
      · exact set_old (set_old q1 (by omega)) (by omega)
      · exact set_old (set_at (lt_of_at q2)) (by omega)
      · rw [hst]; exact set_at (by rw [List.length_set]; exact lt_of_at q3)
      · rw [List.map_append, g4, hst, List.map_cons, List.map_nil, hpn]
      · intro a q hq
        by_cases ha : a < ps.length
        · rw [List.getElem?_append_left ha] at hq
          rw [List.take_append_of_le_length (Nat.le_of_lt ha)]
          exact g5 a q hq
        · have ha2 : a = ps.length := by
            have := (List.getElem?_eq_some_iff.mp hq).1
            simp at this
            omega
          subst ha2
          rw [List.getElem?_append_right (Nat.le_refl _), Nat.sub_self] at hq
          cases hq
          rw [List.take_left, g4]
          exact hpk) [some (.ref u), some (.int 6), some (.int ((1 + m : Nat) : Int)), some (.tup (nm.map Val.str)), some (.ref (st.length + 1)), some (.ref (st.length + 2)), some (.ref (st.length + 3)), none, none, none, none, none, none] (s5 ++ [.lst (ds.map Val.str)])
      ⟨none, none, none, none, none, none, [], rfl, r45.app _, by rw [← ls5, app_at0]; rfl, by rw [app_old c5p]; rfl, by rw [app_old c5k]; simp, by simp, by simp, Nat.zero_le _⟩
  have hnmf : ∀ x ∈ nm.map Val.str, x.fine = true ∧ x.tl = 60 ∧ x.dep = 0 := fun x hx => by
    obtain ⟨n, hn, rfl⟩ := List.mem_map.mp hx
    exact ⟨pool_fine n (p2 n hn), by simp, by simp⟩
  have hds : ds.take (ds.map Val.str).length = ds := by rw [List.length_map, List.take_length]
  rw [hds] at h10
  have hbk : BookOk ps := ⟨by rw [h10]; exact dsn, by
    have := congrArg List.length h10
    simp at this
    omega, h11⟩
  have hff : fineAll (ps.map Pt.v) = true := fineAll_iff.mpr fun x hx => by
    obtain ⟨p, hp, rfl⟩ := List.mem_map.mp hx
    obtain ⟨i, hi⟩ := List.mem_iff_getElem?.mp hp
    exact (h11 i p hi).fine
  have hnf : fineAll (nm.map Val.str) = true := fineAll_iff.mpr fun x hx => (hnmf x hx).1
  obtain ⟨g1, g2⟩ := gcR_urn (x := bookV (nm.map Val.str) ps) hu r7 (Val.fine_flat _ (by simp [bookV, hff, hnf]))
  refine ⟨nm.map Val.str, ps, _, ?_, g2, hbk, hnf, by simp [l2]; omega, fun x hx => (hnmf x hx).2⟩
  rw [← g1]
  have q2 : s1.length = st.length := ls1
  have hk2 : ((1 : Int) + (m : Int)) = ((1 + m : Nat) : Int) := by omega
  have t4 : tabOf (eSl (eVar 4) oNo (oSome (eCall (C 14) (lCons (eVar 0) (lCons (eOp2 oAdd (eVar 1) (eC (.int 1))) lNil))))) [some (.ref u), some (.int 6), some (.int ((1 + m : Nat) : Int)), some (.tup (nm.map Val.str)), some (.ref (st.length + 1)), some (.ref (st.length + 2)), some (.ref (st.length + 3)), none, none, none, none, none, none] s4 = none := by
    unfold tabOf
    have : eSl (eVar 4) oNo (oSome (eCall (C 14) (lCons (eVar 0) (lCons (eOp2 oAdd (eVar 1) (eC (.int 1))) lNil)))) [some (.ref u), some (.int 6), some (.int ((1 + m : Nat) : Int)), some (.tup (nm.map Val.str)), some (.ref (st.length + 1)), some (.ref (st.length + 2)), some (.ref (st.length + 3)), none, none, none, none, none, none] s4 = .ok (.ref (st.length + 4)) (s5 ++ [.lst (ds.map Val.str)]) := by simp [e5, e6]
    rw [this]
    have : s4[st.length + 4]? = none := by rw [List.getElem?_eq_none_iff]; omega
    simp [this]
  have E : m23 C (startS 13 [.ref u, .int 6]) st = .rt (bookV (nm.map Val.str) ps) s7 := by
    unfold m23
    refine seq_go (ρ1 := [some (.ref u), some (.int 6), some (.int ((1 + m : Nat) : Int)), none, none, none, none, none, none, none, none, none, none]) (st1 := s1) (by simp [e1]) ?_
    refine seq_go (ρ1 := [some (.ref u), some (.int 6), some (.int ((1 + m : Nat) : Int)), some (.tup (nm.map Val.str)), none, none, none, none, none, none, none, none, none]) (st1 := s2 ++ [.lst (nm.map Val.str)]) ?_ ?_
    · have : (s2 ++ [Cell.lst (nm.map Val.str)])[s1.length]? = some (.lst (nm.map Val.str)) := by rw [ls1, ← ls2, app_at0]; rfl
      simp at e2
      simp [e2, nTuple_ref, this, kTupR_l]
    refine seq_go (ρ1 := [some (.ref u), some (.int 6), some (.int ((1 + m : Nat) : Int)), some (.tup (nm.map Val.str)), some (.ref (st.length + 1)), some (.ref (st.length + 2)), some (.ref (st.length + 3)), none, none, none, none, none, none]) (st1 := s4) ?_ ?_
    · have l1 : (s2 ++ [Cell.lst (nm.map Val.str)]).length = st.length + 1 := by simp [ls2]
      rw [l1] at e3
      simp at e3
      simp [e3, s4, ls3]
    refine seq_go (ρ1 := [some (.ref u), some (.int 6), some (.int ((1 + m : Nat) : Int)), some (.tup (nm.map Val.str)), some (.ref (st.length + 1)), some (.ref (st.length + 2)), some (.ref (st.length + 3)), x7, x8, x9, x10, x11, x12]) (st1 := s7) ?_ ?_
    · rw [sForA_seq t4]
      have c6 : (s5 ++ [Cell.lst (ds.map Val.str)])[st.length + 4]? = some (.lst (ds.map Val.str)) := by rw [← ls5, app_at0]; rfl
      simp at e7
      simp [e5, e6, c6, e7]
    · simp [nTuple_ref, h8, kTupR_l, bookV]
  show gcR st (bodyR (m23 C (startS 13 [.ref u, .int 6]) st)) = _
  rw [E]
  rfl
end W64
namespace EV
open PySem PySem.Spec L2
/-- a new thing that is no list is left as it is -/
theorem gcR_ref {st st' : Store} {r : Nat} {c : Cell} (hr : st.length ≤ r) (hc : st'[r]? = some c) (hn : ∀ xs, c ≠ .lst xs) : gcR st (.ok (.ref r) st') = .ok (.ref r) st' := by
  have hb : ¬ (Val.ref r).bel st.length = true := by unfold Val.bel; simp; omega
  have hf : freshLst st st' (.ref r) = none := by
    unfold freshLst
    simp only
    rw [if_pos hr, hc]
    cases c with
    | lst xs => exact absurd rfl (hn xs)
    | _ => rfl
  have hg : gc st (.ref r) st' = (.ref r, st') := by
    unfold gc
    split
    · rw [hf]
    · rfl
  show Res.ok (gc st (.ref r) st').1 (gc st (.ref r) st').2 = _
  rw [hg]
def kLen1 (c : Option Cell) (st : Store) : Option (Val × Store) := match c with
  | some (.lst xs) => some (.int xs.length, st)
  | some (.rol xs) => some (.int xs.length, st)
  | _ => none
theorem nLen_ref1 {st : Store} {r : Nat} : nLen [.ref r] st = kLen1 st[r]? st := rfl
@[simp] theorem kLen1_l {st : Store} {xs : List Val} : kLen1 (some (.lst xs)) st = some (.int xs.length, st) := rfl
theorem cut63 {xs : List Val} : cutX xs none (some 63) = xs.take 63 := by
  unfold cutX
  rw [HT.sIx_none, show (63 : Int) = ((63 : Nat) : Int) from rfl, HT.sIx_nat]
  simp
theorem script_sl {ns : List Int} {x : Val} {st : Store} (h : IsScript ns x st) (t : Store) : slOf x none (some 63) (st ++ t) = some (.ref (st.length + t.length), st ++ (t ++ [.lst ((ns.take 63).map Val.int)])) := by
  rcases h with ⟨rfl, rfl⟩ | ⟨rfl, rfl⟩
  · unfold slOf
    have : ([Cell.rol (ns.map Val.int)] ++ t)[0]? = some (.rol (ns.map Val.int)) := rfl
    simp only [this, cut63]
    simp [List.map_take]; omega
  · unfold slOf
    simp only [cut63]
    simp [List.map_take]
end EV
namespace W64
open PySem PySem.Spec L2 EV
def UrnMake (f : Fun1) : Prop := ∀ (ns : List Int) (x : Val) (st : Store), IsScript ns x st → ∃ u d st', f [x] st = .ok (.ref u) st' ∧ IsUrn u d st'
theorem oPow10 {st : Store} : oPow (.int 10) (.int 18) st = some (.int (10 ^ 18), st) := by
  unfold oPow
  exact if_pos ⟨by decide, by decide, by decide⟩
theorem urn_ok (C : Nat → Fun1) : UrnMake (runF (m13 C) 4) := by
  intro ns x st hx
  have hsl := script_sl hx
  have hz : (ns.take 63).length ≤ 63 := by simp; omega
  generalize ns.take 63 = zs at hsl hz
  have e1 : slOf x none (some 63) (st ++ [.lst []]) = some (.ref (st.length + 1), st ++ [.lst [], .lst (zs.map Val.int)]) := hsl [.lst []]
  let D0 : Cell := .dK [(.inr "deep", .ref st.length), (.inr "state", .int (580064 + zs.length)), (.inr "turn", .int 0)]
  have e2 : slOf x none (some 63) (st ++ [.lst [], .lst (zs.map Val.int), D0]) = some (.ref (st.length + 3), st ++ [.lst [], .lst (zs.map Val.int), D0, .lst (zs.map Val.int)]) := hsl [.lst [], .lst (zs.map Val.int), D0]
  have hw := for_rule (s := .cell (st.length + 3) (zs.map Val.int)) (g := gSlot 2) (b := b13_0 C)
    (fun i ρ s => ∃ (a b : Option Val) (d : Nat) (v : Int) (dl : List Int), ρ = [some x, some (.ref (st.length + 2)), a, b] ∧ d ≠ st.length + 2 ∧ d ≠ st.length + 3 ∧ s[st.length + 2]? = some (.dK [(.inr "deep", .ref d), (.inr "state", .int v), (.inr "turn", .int 0)]) ∧
      s[d]? = some (.lst (dl.map Val.int)) ∧ s[st.length + 3]? = some (.lst (zs.map Val.int)) ∧ 0 ≤ v ∧ v < 2 ^ 61 ∧ dl.length ≤ i ∧ i ≤ zs.length)
    (zs.map Val.int) (fun i ρ s ⟨_, _, _, _, _, _, _, _, _, _, h, _⟩ => .inl h) (by
      rintro i y ρ s hy ⟨a, b, d, v, dl, rfl, n1, n2, h1, h2, h3, v0, v1, hl, hi⟩
      rw [List.getElem?_map, Option.map_eq_some_iff] at hy
      obtain ⟨n, hn, rfl⟩ := hy
      have hi' := (List.getElem?_eq_some_iff.mp hn).1
      have ab : ∀ k : Int, (if k < 0 then -k else k) = (k.natAbs : Int) := fun k => by split <;> omega
      let w : Int := ((v + (2 * (n.natAbs : Int) + (if n < 0 then 1 else 0)) + 1) * 2862933555777941757 + 3037000493) % 2305843009213693951
      have w0 : 0 ≤ w := Int.emod_nonneg _ (by decide)
      have w1 : w < 2 ^ 61 := Int.lt_trans (Int.emod_lt_of_pos _ (by decide)) (by decide)
      have stage2 : ∀ (b : Option Val) (d : Nat) (dl : List Int) (s : Store), d ≠ st.length + 2 → d ≠ st.length + 3 → s[st.length + 2]? = some (.dK [(.inr "deep", .ref d), (.inr "state", .int v), (.inr "turn", .int 0)]) →
          s[d]? = some (.lst (dl.map Val.int)) → s[st.length + 3]? = some (.lst (zs.map Val.int)) →
          ∃ b' s', sSeq (sSet (eOp2 oAdd (eOp2 oMul (eC (.int 2)) (eOpN nAbs (lCons (eVar 2) (lNil)))) (eOpN nInt (lCons (eOp2 oLt (eVar 2) (eC (.int 0))) (lNil)))) (gSlot 3)) (sPut (eVar 1) (eC (.str "state")) (eOp2 oMod (eOpN nInt (lCons (eOp2 oAdd (eOp2 oMul (eOp2 oAdd (eOp2 oAdd (eOp2 oIx (eVar 1) (eC (.str "state"))) (eVar 3)) (eC (.int 1))) (eC (.int 2862933555777941757))) (eC (.int 3037000493))) (lNil))) (eC (.int 2305843009213693951)))) [some x, some (.ref (st.length + 2)), some (.int n), b] s
            = .nx [some x, some (.ref (st.length + 2)), some (.int n), b'] s' ∧ s'[st.length + 2]? = some (.dK [(.inr "deep", .ref d), (.inr "state", .int w), (.inr "turn", .int 0)]) ∧ s'[d]? = some (.lst (dl.map Val.int)) ∧ s'[st.length + 3]? = some (.lst (zs.map Val.int)) := by
        intro b d dl s m1 m2 q1 q2 q3
        refine ⟨some (.int (2 * (n.natAbs : Int) + (if n < 0 then 1 else 0))), s.set (st.length + 2) (.dK [(.inr "deep", .ref d), (.inr "state", .int w), (.inr "turn", .int 0)]), ?_, set_at (lt_of_at q1), set_old q2 m1, set_old q3 (by omega)⟩
        by_cases hneg : n < 0
        · have : (-n) = (n.natAbs : Int) := by omega
          simp [hneg, this, oMul_l sm4, oIx_str q1, putIx_str q1, dput, oMul_r sm1, oMod_int, w]
        · have : n = (n.natAbs : Int) := by omega
          have h2 : ¬ ((n.natAbs : Int) < 0) := by omega
          rw [this]
          simp [h2, oMul_l sm4, oIx_str q1, putIx_str q1, dput, oMul_r sm1, oMod_int, w, ← this, hneg]
      by_cases hg : (10 : Int) ^ 18 ≤ (n.natAbs : Int)
      · let sA : Store := (s ++ [Cell.lst [.int n.natAbs], Cell.lst (((n.natAbs : Int) :: dl).map Val.int)]).set (st.length + 2) (.dK [(.inr "deep", .ref (s.length + 1)), (.inr "state", .int v), (.inr "turn", .int 0)])
        have lu := lt_of_at h1
        have l3 := lt_of_at h3
        have q1 : sA[st.length + 2]? = some (.dK [(.inr "deep", .ref (s.length + 1)), (.inr "state", .int v), (.inr "turn", .int 0)]) := set_at (by simp; omega)
        have q2 : sA[s.length + 1]? = some (.lst (((n.natAbs : Int) :: dl).map Val.int)) := set_old (by rw [app_at]; rfl) (by omega)
        have q3 : sA[st.length + 3]? = some (.lst (zs.map Val.int)) := set_old (app_old h3) (by omega)
        obtain ⟨b', s', e, g1, g2, g3⟩ := stage2 b (s.length + 1) ((n.natAbs : Int) :: dl) sA (by omega) (by omega) q1 q2 q3
        refine ⟨_, _, _, rfl, .inl ?_, some (.int n), b', s.length + 1, w, (n.natAbs : Int) :: dl, rfl, by omega, by omega, g1, g2, g3, w0, w1, by simp; omega, hi'⟩
        refine seq_go (ρ1 := [some x, some (.ref (st.length + 2)), some (.int n), b]) (st1 := sA) (if_t (st1 := s) ?_ ?_) e
        · simp [oPow10, ab]; simpa using hg
        · have k1 := app_old (t := [Cell.lst [.int n.natAbs]]) h1
          have k2 := app_old (t := [Cell.lst [.int n.natAbs]]) h2
          have k3 := app_old (t := [Cell.lst [.int n.natAbs], Cell.lst (((n.natAbs : Int) :: dl).map Val.int)]) h1
          have hdl : dl.length + 1 ≤ 16777216 := by omega
          simp at k3
          simp [ab, oIx_str k1, oAdd_ref, k2, kAddR_ll, hdl, Nat.add_comm, putIx_str k3, dput, sA]
      · obtain ⟨b', s', e, g1, g2, g3⟩ := stage2 b d dl s n1 n2 h1 h2 h3
        refine ⟨_, _, _, rfl, .inl ?_, some (.int n), b', d, w, dl, rfl, n1, n2, g1, g2, g3, w0, w1, by omega, hi'⟩
        refine seq_go (ρ1 := [some x, some (.ref (st.length + 2)), some (.int n), b]) (st1 := s) (if_f (st1 := s) ?_ rfl) e
        simp [oPow10, ab]; simpa using hg) [some x, some (.ref (st.length + 2)), none, none] (st ++ [.lst [], .lst (zs.map Val.int), D0, .lst (zs.map Val.int)]) ⟨none, none, st.length, 580064 + zs.length, [], rfl, by omega, by omega, by rw [app_at]; rfl, by rw [app_at0]; rfl, by rw [app_at]; rfl, by omega, by omega, by simp, by omega⟩
  obtain ⟨ρ', s', e3, a, b, d, v, dl, rfl, n1, n2, h1, h2, h3, v0, v1, hl, hi⟩ := hw
  refine ⟨st.length + 2, d, s', ?_, n1.symm, v, 0, dl, h1, h2, v0, v1, by simp at hl; omega⟩
  rw [← gcR_ref (Nat.le_add_right _ _) h1 (fun _ q => by cases q)]
  have t4 : tabOf (eSl (eVar 0) oNo (oSome (eC (.int 63)))) [some x, some (.ref (st.length + 2)), none, none] (st ++ [.lst [], .lst (zs.map Val.int), D0]) = none := by
    unfold tabOf
    have : eSl (eVar 0) oNo (oSome (eC (.int 63))) [some x, some (.ref (st.length + 2)), none, none] (st ++ [.lst [], .lst (zs.map Val.int), D0]) = .ok (.ref (st.length + 3)) (st ++ [.lst [], .lst (zs.map Val.int), D0, .lst (zs.map Val.int)]) := by simp [e2]
    rw [this]
    simp
  have E : m13 C (startS 4 [x]) st = .rt (.ref (st.length + 2)) s' := by
    unfold m13
    refine seq_go (ρ1 := [some x, some (.ref (st.length + 2)), none, none]) (st1 := st ++ [.lst [], .lst (zs.map Val.int), D0]) ?_ ?_
    · simp [e1, D0, nLen_ref1, dput]
    refine seq_go (ρ1 := [some x, some (.ref (st.length + 2)), a, b]) (st1 := s') ?_ (by simp)
    rw [sForA_seq t4]
    simp [e2, e3]
  show gcR st (bodyR (m13 C (startS 4 [x]) st)) = _
  rw [E]
  rfl
end W64
namespace EV
open PySem PySem.Spec L2
/-- the old cells stand as they were -/
structure FR (st s : Store) : Prop where
  len : st.length ≤ s.length
  old : ∀ r, r < st.length → s[r]? = st[r]?
theorem FR.refl (st : Store) : FR st st := ⟨Nat.le_refl _, fun _ _ => rfl⟩
theorem FR.app {st s : Store} (h : FR st s) (t : Store) : FR st (s ++ t) := ⟨by have := h.len; simp; omega, fun r hr => by rw [List.getElem?_append_left (Nat.lt_of_lt_of_le hr h.len)]; exact h.old r hr⟩
theorem FR.app0 (st t : Store) : FR st (st ++ t) := (FR.refl st).app t
theorem FR.set {st s : Store} {k : Nat} {c : Cell} (h : FR st s) (hk : st.length ≤ k) : FR st (s.set k c) := ⟨by rw [List.length_set]; exact h.len, fun r hr => by rw [List.getElem?_set_ne (by omega)]; exact h.old r hr⟩
theorem FR.trans {a b c : Store} (h : FR a b) (k : FR b c) : FR a c := ⟨Nat.le_trans h.len k.len, fun r hr => (k.old r (Nat.lt_of_lt_of_le hr h.len)).trans (h.old r hr)⟩
theorem FR.of_app {a t c : Store} (h : FR (a ++ t) c) : FR a c := (FR.app0 a t).trans h
theorem FR.at_ {st s : Store} {r : Nat} {c : Cell} (h : FR st s) (hc : st[r]? = some c) : s[r]? = some c := by rw [h.old r (lt_of_at hc)]; exact hc
theorem FR.eq_app {st s : Store} (h : FR st s) : s = st ++ s.drop st.length := by
  have : s.take st.length = st := by
    apply List.ext_getElem?
    intro r
    by_cases hr : r < st.length
    · rw [List.getElem?_take_of_lt hr, h.old r hr]
    · rw [List.getElem?_eq_none_iff.mpr (by rw [List.length_take]; omega), List.getElem?_eq_none_iff.mpr (by omega)]
  conv => lhs; rw [← List.take_append_drop st.length s, this]
theorem gcR_F {st s : Store} {x : Val} (h : FR st s) (hf : x.flat = true) : gcR st (.ok x s) = .ok x st := by
  rw [h.eq_app]; exact gcR_flat hf
theorem gcR_FL {st s : Store} {r : Nat} {ys : List Val} (h : FR st s) (hr : st.length ≤ r) (hc : s[r]? = some (.lst ys)) (hf : flatAll ys = true) : gcR st (.ok (.ref r) s) = .ok (.ref st.length) (st ++ [.lst ys]) := by
  have e := h.eq_app
  obtain ⟨k, rfl⟩ : ∃ k, r = st.length + k := ⟨r - st.length, by omega⟩
  rw [e] at hc ⊢
  rw [app_at] at hc
  exact gcR_lst hc hf
end EV
namespace W64
open PySem PySem.Spec L2 EV
structure En where
  w : List Val
  s : Sp
  k : Int
def En.v (e : En) : Val := .tup [.tup e.w, e.s.v, .int e.k]
def enC (l : List En) : Nat := (l.map fun e => e.s.cnt).sum
structure EnOk (B : Nat) (e : En) : Prop where
  ok : e.s.Ok
  fl : flatAll e.w = true
  ln : e.w.length ≤ B
theorem enC_cons (e : En) (l : List En) : enC (e :: l) = e.s.cnt + enC l := rfl
theorem enC_app (l m : List En) : enC (l ++ m) = enC l + enC m := by unfold enC; rw [List.map_append, List.sum_append]
theorem enC_rev (l : List En) : enC l.reverse = enC l := by
  induction l with
  | nil => rfl
  | cons e l ih => rw [List.reverse_cons, enC_app, ih, enC_cons]; simp [enC]; omega
theorem Sp.cnt_pos (s : Sp) : 1 ≤ s.cnt := by cases s <;> unfold Sp.cnt <;> omega
theorem enC_len (l : List En) : l.length ≤ enC l := by
  induction l with
  | nil => simp
  | cons e l ih => rw [enC_cons, List.length_cons]; have := e.s.cnt_pos; omega
theorem En.flat {B : Nat} {e : En} (h : EnOk B e) : e.v.flat = true := by
  have := Val.fine_flat _ (Sp.fine e.s h.ok)
  simp [En.v, h.fl, this]
theorem ens_flat {B : Nat} {l : List En} (h : ∀ e ∈ l, EnOk B e) : flatAll (l.map En.v) = true := flatAll_iff.mpr fun x hx => by
  obtain ⟨e, he, rfl⟩ := List.mem_map.mp hx
  exact En.flat (h e he)
theorem cnts_le (l : List Sp) : l.length ≤ cnts l := by
  induction l with
  | nil => simp [cnts]
  | cons s r ih => rw [cnts, List.length_cons]; have := s.cnt_pos; omega
/-- the list of what is written over enumerate(..) of steps -/
theorem comp_en {C : Nat → Fun1} {e : Ev} {ρ : Slots} {st : Store} {g : Tg} (i j B : Nat) (l : List Sp) (hok : oks l) (mk : Nat → Sp → En) (hs : ∀ n s, (mk n s).s = s) (hk : ∀ n s, s.Ok → EnOk B (mk n s))
    (step : ∀ (n : Nat) (s : Sp), s ∈ l → ∃ ρ1, g (.tup [.int (n : Int), s.v]) ρ = some ρ1 ∧ e ρ1 st = .ok (mk n s).v st) :
    ∃ es : List En, compL (.vals (enumL 0 (vsOf l))) g tTrue e ρ (enumL 0 (vsOf l)) st = .ok (es.map En.v) st ∧ (∀ e ∈ es, EnOk B e) ∧ enC es = cnts l ∧ es.length = l.length := by
  obtain ⟨ys, s', h, rfl, es, rfl, h1, h2, h3⟩ := comp_rule (s := .vals (enumL 0 (vsOf l))) (g := g) (t := tTrue) (e := e) (ρ := ρ) (fun i s acc => s = st ∧ ∃ es : List En, acc = es.map En.v ∧ (∀ e ∈ es, EnOk B e) ∧ enC es = cnts (l.take i) ∧ es.length = i)
    (enumL 0 (vsOf l)) (fun _ _ _ _ => trivial) (by
      rintro i x s acc hx ⟨rfl, es, rfl, h1, h2, h3⟩
      obtain ⟨y, hy, rfl⟩ := enumL_get _ _ _ _ hx
      obtain ⟨sp, hsp, rfl⟩ := vs_get hy
      have hm := List.mem_of_getElem? hsp
      obtain ⟨ρ1, e1, e2⟩ := step i sp hm
      rw [Nat.zero_add]
      refine ⟨ρ1, e1, .inl ⟨s, _, s, rfl, e2, rfl, es ++ [mk i sp], by simp, ?_, ?_, by simp [h3]⟩⟩
      · intro e he
        rcases List.mem_append.mp he with q | q
        · exact h1 e q
        · rw [List.mem_singleton.mp q]; exact hk i sp ((oks_iff l).mp hok sp hm)
      · rw [enC_app, h2, cnts_take hsp]; simp [enC, hs]) st ⟨rfl, [], rfl, by simp, by simp [enC, cnts], rfl⟩
  rw [enumL_len, vs_len] at h2 h3
  rw [List.take_length] at h2
  exact ⟨es, h, h1, h2, h3⟩
def WalkedOk (f : Fun1) : Prop := ∀ (l : List Sp) (st : Store), oks l → cnts l ≤ 20000 → ∃ es : List En, f [.tup (vsOf l), .non] st = .ok (.ref st.length) (st ++ [.lst (es.map En.v)]) ∧ es.length = cnts l ∧ ∀ e ∈ es, EnOk 100000 e
theorem walked_ok {C : Nat → Fun1} (hB : BranchOk (C 0)) : WalkedOk (runF (m1 C) 10) := by
  intro l st hok hcn
  obtain ⟨es, e0, h1, h2, h3⟩ := comp_en (C := C) (e := e1_3 C) (ρ := [some (.tup (vsOf l)), some .non, none, none, none, none, none, none, none, none]) (st := st) (g := gTupT (gsCons (gSlot 8) (gsCons (gSlot 5) gsNil))) 8 5 1 l hok (fun n s => ⟨[.int (n : Int)], s, 0⟩) (fun _ _ => rfl) (fun n s h => ⟨h, by simp, by simp⟩)
    (fun n s _ => ⟨_, by simp; rfl, by simp [e1_3, En.v]⟩)
  have hw := while_rule (t := t1_2 C) (b := b1_2 C) (P := fun ρ s => ∃ fs : List En, ρ[3]? = some (some (.ref (st.length + 2))) ∧ FR st s ∧ s[st.length + 2]? = some (.lst (fs.map En.v)) ∧ fs.length = cnts l ∧ ∀ e ∈ fs, EnOk 100000 e)
    (fun n ρ s => ∃ (x4 x5 x6 x7 x8 x9 : Option Val) (ws fs : List En), ρ = [some (.tup (vsOf l)), some .non, some (.ref (st.length + 1)), some (.ref (st.length + 2)), x4, x5, x6, x7, x8, x9] ∧ FR st s ∧ s[st.length + 1]? = some (.lst (ws.map En.v)) ∧ s[st.length + 2]? = some (.lst (fs.map En.v)) ∧
      (∀ e ∈ ws, EnOk (1 + 2 * fs.length) e) ∧ (∀ e ∈ fs, EnOk 100000 e) ∧ enC ws + fs.length = cnts l ∧ n = enC ws) (by
      rintro n ρ s ⟨x4, x5, x6, x7, x8, x9, ws, fs, rfl, hs, g1, g2, g3, g4, g5, rfl⟩
      rcases List.eq_nil_or_concat ws with rfl | ⟨w0, w1, rfl⟩
      · left
        refine ⟨s ++ [.lst []], ?_, fs, rfl, hs.app _, app_old g2, ?_, g4⟩
        · simp at g1
          simp [t1_2, oNe_nil (app_old g1)]
        · simp [enC] at g5; exact g5
      · right
        simp at g1
        have g1' := app_old (t := [Cell.lst []]) g1
        have g2' := app_old (t := [Cell.lst []]) g2
        have hw1 := g3 w1 (by simp)
        have hfs : fs.length ≤ 20000 := by omega
        have hsum : enC w0 + w1.s.cnt + fs.length = cnts l := by
          rw [List.concat_eq_append, enC_app] at g5
          simp [enC] at g5 ⊢
          omega
        let s1 : Store := s ++ [.lst []]
        let s2 : Store := (s1.set (st.length + 1) (.lst (w0.map En.v))).set (st.length + 2) (.lst ((fs ++ [w1]).map En.v))
        have hs1 : FR st s1 := hs.app _
        have k1 : s1[st.length + 1]? = some (.lst (w0.map En.v ++ [w1.v])) := g1'
        have k2 : s1[st.length + 2]? = some (.lst (fs.map En.v)) := g2'
        have hs2 : FR st s2 := (hs1.set (by omega)).set (by omega)
        have c1 : s2[st.length + 1]? = some (.lst (w0.map En.v)) := set_old (set_at (lt_of_at k1)) (by omega)
        have c2 : s2[st.length + 2]? = some (.lst ((fs ++ [w1]).map En.v)) := set_at (by rw [List.length_set]; exact lt_of_at k2)
        have k3 : (s1.set (st.length + 1) (.lst (w0.map En.v)))[st.length + 2]? = some (.lst (fs.map En.v)) := set_old k2 (by omega)
        have ht : t1_2 C [some (.tup (vsOf l)), some .non, some (.ref (st.length + 1)), some (.ref (st.length + 2)), x4, x5, x6, x7, x8, x9] s = .ok true s1 := by simp [t1_2, oNe_nil g1', s1]
        have hlen : fs.length < 16777216 := by omega
        let ρ1 : Slots := [some (.tup (vsOf l)), some .non, some (.ref (st.length + 1)), some (.ref (st.length + 2)), some (.tup w1.w), some w1.s.v, some (.int w1.k), x7, x8, x9]
        have h5 : ∀ e ∈ fs ++ [w1], EnOk 100000 e := fun e he => by
          rcases List.mem_append.mp he with q | q
          · exact g4 e q
          · rw [List.mem_singleton.mp q]; exact ⟨hw1.ok, hw1.fl, by have := hw1.ln; omega⟩
        have pre : ∀ (q : Sm) (r : RS), q ρ1 s2 = r → sSeq (sSet (eMeth mPop (eVar 2) lNil) (gTupT (gsCons (gSlot 4) (gsCons (gSlot 5) (gsCons (gSlot 6) (gsNil)))))) (sSeq (sDrop (eMeth mAppend (eVar 3) (lCons (eTup (lCons (eVar 4) (lCons (eVar 5) (lCons (eVar 6) (lNil))))) (lNil)))) q) [some (.tup (vsOf l)), some .non, some (.ref (st.length + 1)), some (.ref (st.length + 2)), x4, x5, x6, x7, x8, x9] s1 = r := by
          intro q r hq
          refine seq_go (ρ1 := ρ1) (st1 := s1.set (st.length + 1) (.lst (w0.map En.v))) ?_ (seq_go (ρ1 := ρ1) (st1 := s2) ?_ hq)
          · simp [k1, mPop_last k1, ρ1, En.v]
          · simp [k3, mAppend_ref, kAppR_l, hlen, ρ1, s2, En.v]
        by_cases hbr : w1.s.isBr = true
        · obtain ⟨w1w, w1s, w1k⟩ := w1
          cases w1s with
          | leaf op r => cases hbr
          | go q => cases hbr
          | br op y ys ns =>
            have hok1 := hw1.ok
            unfold Sp.Ok at hok1
            have hb := hB (.br op y ys ns) s2 hw1.ok
            have hw3 := hw1.ln
            have hwl : w1w.length + 2 ≤ 16777216 := by simp at hw3; omega
            obtain ⟨es1, q1, q2, q3, q4⟩ := comp_en (C := C) (e := e1_1 C) (ρ := [some (.tup (vsOf l)), some .non, some (.ref (st.length + 1)), some (.ref (st.length + 2)), some (.tup w1w), some (Sp.br op y ys ns).v, some (.int w1k), x7, none, none]) (st := s2) (g := gTupT (gsCons (gSlot 8) (gsCons (gSlot 9) gsNil))) 8 9 (1 + 2 * (fs.length + 1)) ys hok1.2.2.2.1 (fun n s => ⟨w1w ++ [.int 0, .int (n : Int)], s, w1k + 1⟩) (fun _ _ => rfl) (fun n s h => ⟨h, by simp [hw1.fl], by simp at hw3 ⊢; omega⟩)
              (fun n s _ => ⟨_, by simp; rfl, by simp [e1_1, En.v, oAdd_tup, hwl]⟩)
            let s3 : Store := s2 ++ [.lst (es1.map En.v)]
            obtain ⟨es2, p1, p2, p3, p4⟩ := comp_en (C := C) (e := e1_0 C) (ρ := [some (.tup (vsOf l)), some .non, some (.ref (st.length + 1)), some (.ref (st.length + 2)), some (.tup w1w), some (Sp.br op y ys ns).v, some (.int w1k), some (.ref s2.length), none, none]) (st := s3) (g := gTupT (gsCons (gSlot 8) (gsCons (gSlot 9) gsNil))) 8 9 (1 + 2 * (fs.length + 1)) ns hok1.2.2.2.2 (fun n s => ⟨w1w ++ [.int 1, .int (n : Int)], s, w1k + 1⟩) (fun _ _ => rfl) (fun n s h => ⟨h, by simp [hw1.fl], by simp at hw3 ⊢; omega⟩)
              (fun n s _ => ⟨_, by simp; rfl, by simp [e1_0, En.v, oAdd_tup, hwl]⟩)
            have hcnt : (Sp.br op y ys ns).cnt = 1 + (cnts ys + cnts ns) := by rw [Sp.cnt]
            have hsum' : enC w0 + (1 + (cnts ys + cnts ns)) + fs.length = cnts l := by rw [← hcnt]; exact hsum
            have y1 := cnts_le ys
            have y2 := cnts_le ns
            have z1 : es1.length ≤ 20000 := by omega
            have z2 : es2.length ≤ 20000 := by omega
            have z0 : w0.length ≤ 20000 := by
              have := enC_len w0
              omega
            let s4 : Store := s2 ++ [.lst (es1.map En.v), .lst (es2.map En.v), .lst (es1.map En.v ++ es2.map En.v)]
            let s5 : Store := s2 ++ [.lst (es1.map En.v), .lst (es2.map En.v), .lst (es1.map En.v ++ es2.map En.v), .lst (es1.map En.v ++ es2.map En.v).reverse]
            have hs5 : FR st s5 := hs2.app _
            have d1 : s5[st.length + 1]? = some (.lst (w0.map En.v)) := app_old c1
            have d2 : s5[st.length + 2]? = some (.lst ((fs ++ [En.mk w1w (.br op y ys ns) w1k]).map En.v)) := app_old c2
            refine ⟨s1, _, s5.set (st.length + 1) (.lst ((w0 ++ (es1 ++ es2).reverse).map En.v)), enC (w0 ++ (es1 ++ es2).reverse), ht, ?_, ?_, some (.tup w1w), some (Sp.br op y ys ns).v, some (.int w1k), some (.ref (s2.length + 2)), x8, x9, w0 ++ (es1 ++ es2).reverse, fs ++ [⟨w1w, .br op y ys ns, w1k⟩], rfl, hs5.set (by omega), set_at (lt_of_at d1), set_old d2 (by omega), ?_, h5, ?_, rfl⟩
            · unfold b1_2
              refine pre _ _ (if_t (st1 := s2) (by simp [hb, Sp.isBr, ρ1]) ?_)
              refine seq_go (ρ1 := [some (.tup (vsOf l)), some .non, some (.ref (st.length + 1)), some (.ref (st.length + 2)), some (.tup w1w), some (Sp.br op y ys ns).v, some (.int w1k), some (.ref s2.length), x8, x9]) (st1 := s3) ?_ ?_
              · simp [ρ1, Sp.v] at q1 ⊢
                have z1' : es1.length ≤ 16777216 := by omega
                simp [q1, jComp_ok, z1', s3]
              refine seq_go (ρ1 := [some (.tup (vsOf l)), some .non, some (.ref (st.length + 1)), some (.ref (st.length + 2)), some (.tup w1w), some (Sp.br op y ys ns).v, some (.int w1k), some (.ref (s2.length + 2)), x8, x9]) (st1 := s4) ?_ ?_
              · have zz : es1.length + es2.length ≤ 16777216 := by omega
                have z2' : es2.length ≤ 16777216 := by omega
                simp [Sp.v, s3] at p1 ⊢
                simp [p1, jComp_ok, z2', s4, oAdd_ref, kAddR_ll, zz]
              · have zz : w0.length + (es1.length + es2.length) ≤ 16777216 := by omega
                have c1' : (s2 ++ [Cell.lst (es1.map En.v), .lst (es2.map En.v), .lst (es1.map En.v ++ es2.map En.v)])[st.length + 1]? = some (.lst (w0.map En.v)) := app_old c1
                have c1'' : (s2 ++ [Cell.lst (es1.map En.v), .lst (es2.map En.v), .lst (es1.map En.v ++ es2.map En.v), .lst (es1.map En.v ++ es2.map En.v).reverse])[st.length + 1]? = some (.lst (w0.map En.v)) := app_old c1
                simp at c1' c1''
                have zz2 : w0.length + (es2.length + es1.length) ≤ 16777216 := by omega
                simp [s4, s5, oRev_ref, kRevR_l, c1', c1'', mExtend_ref, kExtR_l, zz, zz2]
            · rw [enC_app, enC_rev, enC_app]; omega
            · intro e he
              rw [List.length_append, List.length_singleton]
              rcases List.mem_append.mp he with q | q
              · have := g3 e (by simp [q]); exact ⟨this.ok, this.fl, by have := this.ln; omega⟩
              · rcases List.mem_append.mp (List.mem_reverse.mp q) with q | q
                · exact q2 e q
                · exact p2 e q
            · rw [enC_app, enC_rev, enC_app, List.length_append, List.length_singleton]; omega
        · have hb := hB w1.s s2 hw1.ok
          have hbr : w1.s.isBr = false := by simpa using hbr
          have hc1 : w1.s.cnt = 1 := by
            cases e : w1.s with
            | leaf op r => rfl
            | go q => rfl
            | br op y ys ns => rw [e] at hbr; cases hbr
          refine ⟨s1, _, s2, enC w0, ht, ?_, by omega, some (.tup w1.w), some w1.s.v, some (.int w1.k), x7, x8, x9, w0, fs ++ [w1], rfl, hs2, c1, c2, ?_, h5, by rw [List.length_append, List.length_singleton]; omega, rfl⟩
          · unfold b1_2
            exact pre _ _ (if_f (st1 := s2) (by simp [hb, hbr, ρ1]) rfl)
          · intro e he
            have := g3 e (by simp [he])
            exact ⟨this.ok, this.fl, by have := this.ln; rw [List.length_append, List.length_singleton]; omega⟩)
  obtain ⟨ρ', s', e1, fs, f1, f2, f3, f4, f5⟩ := hw (enC es.reverse) [some (.tup (vsOf l)), some .non, some (.ref (st.length + 1)), some (.ref (st.length + 2)), none, none, none, none, none, none] (st ++ [.lst (es.map En.v), .lst (es.reverse.map En.v), .lst []])
    ⟨none, none, none, none, none, none, es.reverse, [], rfl, FR.app0 _ _, by rw [app_at]; rfl, by rw [app_at]; rfl, fun e he => ⟨(h1 e (List.mem_reverse.mp he)).ok, (h1 e (List.mem_reverse.mp he)).fl, by have := (h1 e (List.mem_reverse.mp he)).ln; omega⟩, by simp, by rw [enC_rev, h2]; rfl, rfl⟩
  refine ⟨fs, ?_, f4, f5⟩
  rw [← gcR_FL f2 (Nat.le_add_right _ 2) f3 (ens_flat f5)]
  have y1 := cnts_le l
  have z1 : es.length ≤ 16777216 := by omega
  have E : m1 C (startS 10 [.tup (vsOf l), .non]) st = .rt (.ref (st.length + 2)) s' := by
    unfold m1
    refine seq_go (ρ1 := [some (.tup (vsOf l)), some .non, some (.ref (st.length + 1)), some (.ref (st.length + 2)), none, none, none, none, none, none]) (st1 := st ++ [.lst (es.map En.v), .lst (es.reverse.map En.v), .lst []]) ?_ ?_
    · simp [e0, jComp_ok, z1, oRev_ref, kRevR_l]
    exact seq_go e1 (by simp [f1])
  show gcR st (bodyR (m1 C (startS 10 [.tup (vsOf l), .non]) st)) = _
  rw [E]
  rfl
end W64
namespace EV
open PySem PySem.Spec L2
/-- a table by texts: its keys in order, what it says -/
def dk (ns : List Str) (f : Str → Val) : List (Key × Val) := ns.map fun n => (.inr n, f n)
theorem dk_get {ns : List Str} {f : Str → Val} {n : Str} (h : n ∈ ns) : dget (dk ns f) (.inr n) = some (f n) := by
  induction ns with
  | nil => cases h
  | cons a l ih =>
    show dget ((.inr a, f a) :: dk l f) (.inr n) = _
    rw [dget_cons]
    by_cases q : a = n
    · subst q; rw [if_pos rfl]
    · rw [if_neg (fun e => q (by cases e; rfl))]
      exact ih (by rcases List.mem_cons.mp h with r | r; exact absurd r.symm q; exact r)
theorem dk_none {ns : List Str} {f : Str → Val} {n : Str} (h : n ∉ ns) : dget (dk ns f) (.inr n) = none := by
  induction ns with
  | nil => rfl
  | cons a l ih =>
    show dget ((.inr a, f a) :: dk l f) (.inr n) = _
    rw [dget_cons, if_neg (fun e => h (by cases e; simp))]
    exact ih fun q => h (List.mem_cons_of_mem _ q)
theorem dk_put {ns : List Str} {f : Str → Val} {n : Str} {v : Val} (h : n ∉ ns) (hv : f n = v) : dput (dk ns f) (.inr n) v = dk (ns ++ [n]) f := by
  have : ((dk ns f).any fun kv => decide (kv.1 = (.inr n : Key))) = false := by
    rw [List.any_eq_false]
    rintro ⟨k, w⟩ hk
    obtain ⟨a, ha, e⟩ := List.mem_map.mp hk
    cases e
    simp
    rintro rfl
    exact h ha
  unfold dput
  rw [this, if_neg (by simp)]
  simp [dk, hv]
theorem dk_len {ns : List Str} {f : Str → Val} : (dk ns f).length = ns.length := by simp [dk]
theorem dk_congr {ns : List Str} {f g : Str → Val} (h : ∀ n ∈ ns, f n = g n) : dk ns f = dk ns g := List.map_congr_left fun n hn => by rw [h n hn]
theorem dk_has {ns : List Str} {f : Str → Val} {n : Str} : (dget (dk ns f) (.inr n)).isSome = decide (n ∈ ns) := by
  by_cases h : n ∈ ns
  · rw [dk_get h]; simp [h]
  · rw [dk_none h]; simp [h]
theorem intsOf_map (ns : List Int) : intsOf (ns.map Val.int) = some ns := by
  induction ns with
  | nil => rfl
  | cons n ns ih => simp [intsOf, ih]
theorem nSum_ints {st : Store} {r : Nat} {ns : List Int} (h : st[r]? = some (.lst (ns.map Val.int))) : nSum [.ref r] st = some (.int ns.sum, st) := by
  unfold nSum; simp only [h, intsOf_map]; rfl
end EV
namespace W64
open PySem PySem.Spec L2 EV
def Sp.isGo : Sp → Bool
  | .go _ => true
  | _ => false
def Sp.goN : Sp → Option Str
  | .go n => some n
  | _ => none
def plain (l : List Sp) : List Sp := l.filter fun s => !s.isGo
def gos (l : List Sp) : List Str := l.filterMap Sp.goN
theorem gos_mem {l : List Sp} {n : Str} : n ∈ gos l ↔ Sp.go n ∈ l := by
  unfold gos
  rw [List.mem_filterMap]
  constructor
  · rintro ⟨s, h1, h2⟩
    cases s <;> simp [Sp.goN] at h2
    subst h2; exact h1
  · intro h; exact ⟨_, h, rfl⟩
theorem gos_len (l : List Sp) : (gos l).length ≤ l.length := List.length_filterMap_le _ _
theorem head_of (s : Sp) : ∃ op r, s.v = .tup (.str op :: r) := by
  cases s with
  | leaf op r => exact ⟨op, r, by rw [Sp.v]⟩
  | br op x ys ns => exact ⟨op, [x, .tup (vsOf ys), .tup (vsOf ns)], by rw [Sp.v]⟩
  | go n => exact ⟨"do", [.str n], by rw [Sp.v]⟩
theorem isdo {s : Sp} (h : s.Ok) : ∃ op r, s.v = .tup (.str op :: r) ∧ decide (op = ("do" : Str)) = s.isGo ∧ (∀ n, s = .go n → r = [.str n]) := by
  cases s with
  | leaf op r =>
    unfold Sp.Ok at h
    exact ⟨op, r, by rw [Sp.v], by simp [h.1.1, Sp.isGo], fun n e => by cases e⟩
  | br op x ys ns =>
    unfold Sp.Ok at h
    refine ⟨op, [x, .tup (vsOf ys), .tup (vsOf ns)], by rw [Sp.v], ?_, fun n e => by cases e⟩
    rcases h.1 with rfl | rfl <;> simp [Sp.isGo]
  | go n => exact ⟨"do", [.str n], by rw [Sp.v], by simp [Sp.isGo], fun m e => by cases e; rfl⟩
def wayOf (v : Val) : Option Val := match v with
  | .tup [w, _, _] => some w
  | _ => none
theorem ens_ways (l : List En) : (l.map En.v).filterMap wayOf = l.map fun en => Val.tup en.w := by
  induction l with
  | nil => rfl
  | cons a l ih => rw [List.map_cons, List.filterMap_cons_some (b := .tup a.w) (by rfl), ih]; rfl
def WaysOk (f : Fun1) : Prop := ∀ (x : Val) (l : List Sp) (st : Store), oks l → cnts l ≤ 20000 → ∃ ws : List Val, f [.tup [x, .tup (vsOf l)]] st = .ok (.tup ws) st ∧ ws.length = cnts l
theorem ways_ok {C : Nat → Fun1} (hW : WalkedOk (C 1)) : WaysOk (runF (m2 C) 4) := by
  intro x l st hok hc
  obtain ⟨es, e, hl, he⟩ := hW l st hok hc
  have hh : (st ++ [Cell.lst (es.map En.v)])[st.length]? = some (.lst (es.map En.v)) := by rw [app_at0]; rfl
  have hcomp := comp_pure (s := .cell st.length (es.map En.v)) (g := gTupT (gsCons (gSlot 1) (gsCons (gSlot 2) (gsCons (gSlot 3) gsNil)))) (t := tTrue) (e := e2_0 C) (ρ := [some (.tup [x, .tup (vsOf l)]), none, none, none]) (st := st ++ [Cell.lst (es.map En.v)])
    wayOf (.inl hh) (es.map En.v) (fun v hv => by
        obtain ⟨en, _, rfl⟩ := List.mem_map.mp hv
        exact ⟨_, by simp [En.v]; rfl, .inl ⟨.tup en.w, rfl, by simp [e2_0], rfl⟩⟩)
  have hws := ens_ways es
  rw [hws] at hcomp
  refine ⟨es.map fun en => .tup en.w, ?_, by simp [hl]⟩
  have hf : (Val.tup (es.map fun en => Val.tup en.w)).flat = true := by
    rw [flat_tup, flatAll_iff]
    intro y hy
    obtain ⟨en, hen, rfl⟩ := List.mem_map.mp hy
    rw [flat_tup]; exact (he en hen).fl
  rw [← gcR_flat (t := [.lst (es.map En.v), .lst (es.map fun en => .tup en.w)]) hf]
  have hz : es.length ≤ 16777216 := by omega
  simp [m2, e, hcomp, jComp_ok, hz, nTuple_ref, kTupR_l]
end W64
namespace W64
open PySem PySem.Spec L2 EV
/-- a comprehension over steps: those that are kept, what is made of them -/
theorem comp_sp {g : Tg} {t : Et} {e : Ev} {ρ : Slots} {st : Store} (F : Sp → Option Val) (l : List Sp)
    (step : ∀ s ∈ l, ∃ ρ1, g s.v ρ = some ρ1 ∧ ((∃ y, t ρ1 st = .ok true st ∧ e ρ1 st = .ok y st ∧ F s = some y) ∨ (t ρ1 st = .ok false st ∧ F s = none))) :
    compL (.vals (vsOf l)) g t e ρ (vsOf l) st = .ok (l.filterMap F) st := by
  have go : ∀ m : List Sp, (∀ s ∈ m, s ∈ l) → compL (.vals (vsOf l)) g t e ρ (vsOf m) st = .ok (m.filterMap F) st := by
    intro m
    induction m with
    | nil => intro _; rw [vsOf]; unfold compL; rw [if_pos (show Src.here st (.vals (vsOf l)) from trivial)]; rfl
    | cons s m ih =>
      intro hm
      have ih' := ih fun x hx => hm x (List.mem_cons_of_mem _ hx)
      obtain ⟨ρ1, e1, h⟩ := step s (hm s (List.mem_cons_self ..))
      rw [vsOf]
      unfold compL
      rw [if_pos (show Src.here st (.vals (vsOf l)) from trivial), e1]
      rcases h with ⟨y, h1, h2, h3⟩ | ⟨h1, h2⟩
      · simp only [h1, h2, ih', Res.bind_ok]
        rw [List.filterMap_cons_some h3]
      · simp only [h1, ih']
        rw [List.filterMap_cons_none h2]
  exact go l fun _ h => h
def NamesDone (f : Fun1) : Prop := ∀ (l : List Sp) (st : Store), oks l → l.length ≤ 1000 → f [.tup (vsOf l)] st = .ok (.ref st.length) (st ++ [.lst ((gos l).map Val.str)])
theorem gos_vals (l : List Sp) : (l.filterMap fun s => s.goN.map Val.str) = (gos l).map Val.str := by
  unfold gos; rw [List.map_filterMap]
theorem namesDone_ok (C : Nat → Fun1) : NamesDone (runF (m10 C) 2) := by
  intro l st hok hl
  have hc := comp_sp (g := gSlot 1) (t := t10_0 C) (e := e10_0 C) (ρ := [some (.tup (vsOf l)), none]) (st := st) (fun s => s.goN.map Val.str) l (fun s hs => by
    obtain ⟨op, r, h1, h2, h3⟩ := isdo ((oks_iff l).mp hok s hs)
    refine ⟨[some (.tup (vsOf l)), some s.v], by simp, ?_⟩
    cases s with
    | go n =>
      left
      have := h3 n rfl
      subst this
      refine ⟨.str n, ?_, ?_, rfl⟩
      · simp [t10_0, Sp.v]
      · simp [e10_0, Sp.v]
    | leaf a b => right; refine ⟨?_, rfl⟩; rw [h1]; simp [t10_0]; simpa [Sp.isGo] using h2
    | br a b c d => right; refine ⟨?_, rfl⟩; rw [h1]; simp [t10_0]; simpa [Sp.isGo] using h2)
  rw [gos_vals] at hc
  have hz : (gos l).length ≤ 16777216 := by have := gos_len l; omega
  have hf : flatAll ((gos l).map Val.str) = true := flat_strs _
  rw [← gcR_lst0 (t := []) hf]
  simp [m10, hc, jComp_ok, hz]
def sizeE (W : Str → Nat) (l : List Sp) : Nat := cnts (plain l) + ((gos l).map fun n => 1 + W n).sum
def SizeOf (f : Fun1) : Prop := ∀ (l : List Sp) (q : Nat) (ns : List Str) (W : Str → Nat) (st : Store), oks l → l.length ≤ 1000 → cnts l ≤ 20000 → st[q]? = some (.dK (dk ns fun n => .int (W n))) → (∀ n ∈ gos l, n ∈ ns) →
  f [.tup (vsOf l), .ref q] st = .ok (.int (sizeE W l : Nat)) st
theorem plain_vals (l : List Sp) : (l.filterMap fun s => if s.isGo then none else some s.v) = vsOf (plain l) := by
  rw [vsOf_map]
  unfold plain
  induction l with
  | nil => rfl
  | cons s l ih =>
    cases h : s.isGo with
    | true => rw [List.filterMap_cons_none (by simp [h]), List.filter_cons_of_neg (by simp [h]), ih]
    | false => rw [List.filterMap_cons_some (b := s.v) (by simp [h]), List.filter_cons_of_pos (by simp [h]), List.map_cons, ih]
theorem plain_oks {l : List Sp} (h : oks l) : oks (plain l) := (oks_iff _).mpr fun s hs => (oks_iff l).mp h s (List.mem_filter.mp hs).1
theorem cnts_plain (l : List Sp) : cnts (plain l) ≤ cnts l := by
  unfold plain
  induction l with
  | nil => exact Nat.le_refl _
  | cons s l ih =>
    cases h : s.isGo with
    | true => rw [List.filter_cons_of_neg (by simp [h]), cnts]; omega
    | false => rw [List.filter_cons_of_pos (by simp [h]), cnts, cnts]; omega
theorem eOpN_k {fn : OpN} {l : El} {ρ : Slots} {st : Store} : eOpN fn l ρ st = kOpN (l ρ st) fn := rfl
theorem lCons_k {a : Ev} {l : El} {ρ : Slots} {st : Store} : lCons a l ρ st = kCons (a ρ st) l ρ := rfl
theorem lNil_k {ρ : Slots} {st : Store} : lNil ρ st = .ok [] st := rfl
theorem kCons_k {x : Val} {l : El} {ρ : Slots} {st : Store} : kCons (.ok x st) l ρ = jCons (l ρ st) x := rfl
theorem jCons_k {x : Val} {xs : List Val} {st : Store} : jCons (.ok xs st) x = .ok (x :: xs) st := rfl
theorem kOpN_k {fn : OpN} {xs : List Val} {st : Store} : kOpN (.ok xs st) fn = ofO (fn xs st) := rfl
theorem eOp2_k {f : Op2} {a b : Ev} {ρ : Slots} {st : Store} : eOp2 f a b ρ st = kOp2 (a ρ st) f b ρ := rfl
theorem kOp2_k {f : Op2} {b : Ev} {x : Val} {ρ : Slots} {st : Store} : kOp2 (.ok x st) f b ρ = jOp2 (b ρ st) x f := rfl
theorem jOp2_k {f : Op2} {x y : Val} {st : Store} : jOp2 (.ok y st) x f = ofO (f x y st) := rfl
theorem sizeOf_ok {C : Nat → Fun1} (hW : WaysOk (C 2)) (hN : NamesDone (C 10)) : SizeOf (runF (m4 C) 5) := by
  intro l q ns W st hok hl hcn hq hin
  have hc1 := comp_sp (g := gSlot 3) (t := t4_1 C) (e := e4_1 C) (ρ := [some (.tup (vsOf l)), some (.ref q), none, none, none]) (st := st) (fun s => if s.isGo then none else some s.v) l (fun s hs => by
    obtain ⟨op, r, h1, h2, h3⟩ := isdo ((oks_iff l).mp hok s hs)
    refine ⟨[some (.tup (vsOf l)), some (.ref q), none, some s.v, none], by simp, ?_⟩
    cases h : s.isGo with
    | true => right; rw [h] at h2; refine ⟨?_, by simp [h]⟩; rw [h1]; simp at h2; simp [t4_1, h2]
    | false => left; rw [h] at h2; refine ⟨s.v, ?_, by simp [e4_1], by simp [h]⟩; rw [h1]; simp at h2; simp [t4_1, h2])
  rw [plain_vals] at hc1
  have hz : (plain l).length ≤ 1000 := Nat.le_trans (List.length_filter_le _ _) hl
  have hz1 : (vsOf (plain l)).length ≤ sizeLine := by rw [vs_len, szl]; omega
  obtain ⟨ws, e1, hws⟩ := hW (.tup [.str "x"]) (plain l) (st ++ [.lst (vsOf (plain l))]) (plain_oks hok) (Nat.le_trans (cnts_plain l) hcn)
  have e2 := hN l (st ++ [.lst (vsOf (plain l))]) hok hl
  let s2 : Store := st ++ [.lst (vsOf (plain l))] ++ [.lst ((gos l).map Val.str)]
  have hq2 : s2[q]? = some (.dK (dk ns fun n => .int (W n))) := app_old (app_old hq)
  have hh : s2[st.length + 1]? = some (.lst ((gos l).map Val.str)) := by
    have : s2 = st ++ [.lst (vsOf (plain l)), .lst ((gos l).map Val.str)] := by simp [s2]
    rw [this, app_at]; rfl
  have hc2 := comp_pure (s := .cell (st.length + 1) ((gos l).map Val.str)) (g := gSlot 4) (t := tTrue) (e := e4_0 C) (ρ := [some (.tup (vsOf l)), some (.ref q), some (.tup (vsOf (plain l))), none, none]) (st := s2)
    (fun v => match v with
      | .str n => some (.int (1 + (W n : Int)))
      | _ => none) (.inl hh) ((gos l).map Val.str) (fun v hv => by
        obtain ⟨n, hn, rfl⟩ := List.mem_map.mp hv
        refine ⟨_, by simp; rfl, .inl ⟨.int (1 + (W n : Int)), rfl, ?_, rfl⟩⟩
        simp [e4_0, oIx_str hq2, dk_get (hin n hn)])
  have hmm : ((gos l).map Val.str).filterMap (fun v => match v with
      | .str n => some (Val.int (1 + (W n : Int)))
      | _ => none) = ((gos l).map fun n => (1 + (W n : Int))).map Val.int := by
    rw [List.filterMap_map, List.map_map]
    induction gos l with
    | nil => rfl
    | cons a r ih => rw [List.filterMap_cons_some (b := .int (1 + (W a : Int))) (by rfl), ih]; rfl
  rw [hmm] at hc2
  have hz2 : (((gos l).map fun n => (1 + (W n : Int))).map Val.int).length ≤ sizeLine := by
    rw [List.length_map, List.length_map, szl]; have := gos_len l; omega
  have hsum : ((gos l).map fun n => (1 + (W n : Int))).sum = (((gos l).map fun n => 1 + W n).sum : Nat) := by
    induction gos l with
    | nil => rfl
    | cons a r ih => simp only [List.map_cons, List.sum_cons]; rw [ih]; omega
  have hs3 : (s2 ++ [Cell.lst (((gos l).map fun n => (1 + (W n : Int))).map Val.int)])[s2.length]? = some (.lst (((gos l).map fun n => (1 + (W n : Int))).map Val.int)) := by rw [app_at0]; rfl
  have l2 : s2.length = st.length + 2 := by simp [s2]
  have E : m4 C (startS 5 [.tup (vsOf l), .ref q]) st = .rt (.int (sizeE W l : Nat)) (s2 ++ [.lst (((gos l).map fun n => (1 + (W n : Int))).map Val.int)]) := by
    unfold m4
    refine seq_go (ρ1 := [some (.tup (vsOf l)), some (.ref q), some (.tup (vsOf (plain l))), none, none]) (st1 := st ++ [.lst (vsOf (plain l))]) ?_ ?_
    · simp [hc1, jComp_ok hz1, nTuple_ref, kTupR_l]
    · have hn := nSum_ints hs3
      have hl2 : (st ++ [Cell.lst (vsOf (plain l))]).length = st.length + 1 := by simp
      rw [hl2] at e2
      have e2' : C 10 [.tup (vsOf l)] (st ++ [Cell.lst (vsOf (plain l))]) = .ok (.ref (st.length + 1)) s2 := e2
      have hsz : (sizeE W l : Int) = (ws.length : Int) + ((gos l).map fun n => (1 + (W n : Int))).sum := by
        rw [hsum, hws]; unfold sizeE; omega
      have hj : jComp (Res.ok (((gos l).map fun n => (1 + (W n : Int))).map Val.int) s2) = .ok (.ref s2.length) (s2 ++ [.lst (((gos l).map fun n => (1 + (W n : Int))).map Val.int)]) := jComp_ok hz2
      have hcc : eComp (iSeq (eCall (C 10) (lCons (eVar 0) lNil))) [4] (gSlot 4) tTrue (e4_0 C) [some (.tup (vsOf l)), some (.ref q), some (.tup (vsOf (plain l))), none, none] (st ++ [Cell.lst (vsOf (plain l))]) = .ok (.ref s2.length) (s2 ++ [.lst (((gos l).map fun n => (1 + (W n : Int))).map Val.int)]) := by
        rw [← hj, ← hc2]
        simp [e2', hh]
      refine (show sRet _ _ _ = _ from ?_)
      have h1 : eOpN nLen (lCons (eCall (C 2) (lCons (eTup (lCons (eTup (lCons (eC (.str "x")) lNil)) (lCons (eVar 2) lNil))) lNil)) lNil) [some (.tup (vsOf l)), some (.ref q), some (.tup (vsOf (plain l))), none, none] (st ++ [Cell.lst (vsOf (plain l))]) = .ok (.int ws.length) (st ++ [Cell.lst (vsOf (plain l))]) := by
        simp [e1]
      have h2 : eOpN nSum (lCons (eComp (iSeq (eCall (C 10) (lCons (eVar 0) lNil))) [4] (gSlot 4) tTrue (e4_0 C)) lNil) [some (.tup (vsOf l)), some (.ref q), some (.tup (vsOf (plain l))), none, none] (st ++ [Cell.lst (vsOf (plain l))]) = .ok (.int ((gos l).map fun n => (1 + (W n : Int))).sum) (s2 ++ [.lst (((gos l).map fun n => (1 + (W n : Int))).map Val.int)]) := by
        rw [eOpN_k, lCons_k, hcc]
        simp only [lNil_k, kCons_k, jCons_k, kOpN_k, hn, ofO_mk]
      rw [hsz]
      show kRet (eOp2 oAdd _ _ _ _) _ = _
      rw [eOp2_k, h1]
      simp only [kOp2_k, h2, jOp2_k, oAdd_int, ofO_mk]
      rfl
  have hs : s2 ++ [Cell.lst (((gos l).map fun n => (1 + (W n : Int))).map Val.int)] = st ++ [.lst (vsOf (plain l)), .lst ((gos l).map Val.str), .lst (((gos l).map fun n => (1 + (W n : Int))).map Val.int)] := by simp [s2]
  show gcR st (bodyR (m4 C (startS 5 [.tup (vsOf l), .ref q]) st)) = _
  rw [E, hs]
  exact gcR_flat (by simp)
end W64
namespace W64
open PySem PySem.Spec L2 EV
/-! ### parts of a book -/
mutual
theorem Sp.cnt_tl : ∀ s : Sp, s.cnt * 60 ≤ s.v.tl
  | .leaf op r => by rw [Sp.cnt, Sp.v]; simp; omega
  | .br op x ys ns => by
    have h1 := cnts_tl ys
    have h2 := cnts_tl ns
    rw [Sp.cnt, Sp.v]; simp; omega
  | .go n => by rw [Sp.cnt, Sp.v]; simp
theorem cnts_tl : ∀ l : List Sp, cnts l * 60 ≤ tlAll (vsOf l)
  | [] => by rw [cnts, vsOf]; simp
  | s :: r => by
    have h1 := Sp.cnt_tl s
    have h2 := cnts_tl r
    rw [cnts, vsOf]; simp; omega
end
theorem told_sub {p : Pt} {s : Sp} (h : s ∈ p.told) : s ∈ p.all := by
  cases p with
  | prog n ss => exact h
  | loop n t ss told w => exact List.mem_append_right _ h
theorem told_len (p : Pt) : p.told.length ≤ p.all.length := by
  cases p with
  | prog n ss => exact Nat.le_refl _
  | loop n t ss told w => show told.length ≤ (ss ++ told).length; rw [List.length_append]; omega
/-- what one needs to know of a part -/
structure PtF (ns : List Str) (p : Pt) : Prop where
  oks : oks p.all
  okt : W64.oks p.told
  len : p.all.length ≤ 6
  lent : p.told.length ≤ 6
  cnt : cnts p.told ≤ 20000
  dp : ∀ s ∈ p.all, s.dp ≤ 1
  go : ∀ n ∈ gos p.all, n ∈ ns
  got : ∀ n ∈ gos p.told, n ∈ ns
theorem PtOk.f {ns : List Str} {p : Pt} (h : PtOk ns p) : PtF ns p := by
  have o : W64.oks p.all := (oks_iff _).mpr fun s hs => (h.sp s hs).1
  have ot : W64.oks p.told := (oks_iff _).mpr fun s hs => (h.sp s (told_sub hs)).1
  have g : ∀ n ∈ gos p.all, n ∈ ns := fun n hn => (h.sp _ (gos_mem.mp hn)).2.2.2.2 n rfl
  refine ⟨o, ot, h.len, Nat.le_trans (told_len p) h.len, ?_, fun s hs => (h.sp s hs).2.1, g, fun n hn => g n (gos_mem.mpr (told_sub (gos_mem.mp hn)))⟩
  have h1 : tlAll (vsOf p.told) ≤ (vsOf p.told).length * (100000 + 2) := tlAll_le fun x hx => by
    rw [vsOf_map] at hx
    obtain ⟨s, hs, rfl⟩ := List.mem_map.mp hx
    exact (h.sp s (told_sub hs)).2.2.1
  rw [vs_len] at h1
  have h2 := cnts_tl p.told
  have h3 := Nat.le_trans (told_len p) h.len
  have : p.told.length * (100000 + 2) ≤ 6 * (100000 + 2) := Nat.mul_le_mul_right _ h3
  omega
theorem pv_name (p : Pt) : ∃ k r, p.v = .tup (.str k :: .str p.name :: r) := by
  cases p with
  | prog n ss => exact ⟨_, _, rfl⟩
  | loop n t ss told w => exact ⟨_, _, rfl⟩
def ToldItems (f : Fun1) : Prop := ∀ (p : Pt) (st : Store), W64.oks p.told → f [p.v] st = .ok (.tup (vsOf p.told)) st
theorem toldItems_ok (C : Nat → Fun1) : ToldItems (runF (m5 C) 1) := by
  intro p st h
  have hf : (Val.tup (vsOf p.told)).flat = true := by rw [flat_tup]; exact fineAll_flat _ (oks_fine _ h)
  rw [← gcR_flat0 hf]
  cases p with
  | prog n ss => simp [m5, Pt.v, Pt.told]
  | loop n t ss told w => simp [m5, Pt.v, Pt.told]
theorem name_new {ps : List Pt} {k : Nat} {p : Pt} (h : BookOk ps) (hp : ps[k]? = some p) : p.name ∉ (ps.take k).map Pt.name := by
  intro hm
  obtain ⟨q, hq, he⟩ := List.mem_map.mp hm
  obtain ⟨j, hj⟩ := List.mem_iff_getElem?.mp hq
  rw [List.getElem?_take] at hj
  split at hj
  · rename_i hlt
    have h1 : (ps.map Pt.name)[j]? = some p.name := by rw [List.getElem?_map, hj]; simp [he]
    have h2 : (ps.map Pt.name)[k]? = some p.name := by rw [List.getElem?_map, hp]; rfl
    have l1 := (List.getElem?_eq_some_iff.mp h1)
    have l2 := (List.getElem?_eq_some_iff.mp h2)
    have := (List.getElem_inj h.nd).mp (l1.2.trans l2.2.symm)
    omega
  · cases hj
/-- a book's table, part by part -/
theorem book_loop {C : Nat → Fun1} {b : Sm} {ps : List Pt} {ρ0 : List (Option Val)} {st : Store} {i j : Nat} (f : Str → Val) (hb : BookOk ps) (ρ : Option Val → Slots)
    (step : ∀ (ns : List Str) (p : Pt) (o : Option Val), p ∈ ps → p.name ∉ ns → ns.length ≤ 6 → PtF ns p → ∃ ρ1, gSlot j p.v (ρ o) = some ρ1 ∧ b ρ1 (st ++ [.dK (dk ns f)]) = .nx (ρ (some p.v)) (st ++ [.dK (dk (ns ++ [p.name]) f)])) :
    ∃ o, forL (.vals (ps.map Pt.v)) (gSlot j) b (ps.map Pt.v) (ρ none) (st ++ [.dK []]) = .nx (ρ o) (st ++ [.dK (dk (ps.map Pt.name) f)]) := by
  obtain ⟨ρ', s', e, o, rfl, rfl⟩ := for_rule (s := .vals (ps.map Pt.v)) (g := gSlot j) (b := b) (fun k r s => ∃ o, r = ρ o ∧ s = st ++ [.dK (dk ((ps.take k).map Pt.name) f)]) (ps.map Pt.v) (fun _ _ _ _ => trivial) (by
    rintro k x r s hx ⟨o, rfl, rfl⟩
    rw [List.getElem?_map, Option.map_eq_some_iff] at hx
    obtain ⟨p, hp, rfl⟩ := hx
    obtain ⟨ρ1, e1, e2⟩ := step ((ps.take k).map Pt.name) p o (List.mem_of_getElem? hp) (name_new hb hp) (by rw [List.length_map, List.length_take]; have := hb.len; omega) (hb.ok k p hp).f
    refine ⟨ρ1, _, _, e1, .inl e2, some p.v, rfl, ?_⟩
    rw [List.take_succ, hp]
    simp) (ρ none) (st ++ [.dK []]) ⟨none, rfl, by simp [dk]⟩
  rw [List.length_map, List.take_length] at e
  exact ⟨o, e⟩
def SzEq (ps : List Pt) (W : Str → Nat) : Prop := ∀ p ∈ ps, W p.name = sizeE W p.told
def szT (ps : List Pt) (W : Str → Nat) : Cell := .dK (dk (ps.map Pt.name) fun n => .int (W n))
def ToldSizes (f : Fun1) : Prop := ∀ (nm : List Val) (ps : List Pt) (W : Str → Nat) (st : Store), BookOk ps → SzEq ps W → f [bookV nm ps] st = .ok (.ref st.length) (st ++ [szT ps W])
theorem toldSizes_ok {C : Nat → Fun1} (hS : SizeOf (C 4)) (hT : ToldItems (C 5)) : ToldSizes (runF (m6 C) 3) := by
  intro nm ps W st hb hW
  obtain ⟨o, e⟩ := book_loop (C := C) (b := b6_0 C) (ps := ps) (st := st) (j := 2) (ρ0 := []) (i := 0) (fun n => .int (W n)) hb (fun o => [some (bookV nm ps), some (.ref st.length), o]) (fun ns p o hp hnew hl6 F => by
    refine ⟨_, by simp; rfl, ?_⟩
    have hq : (st ++ [Cell.dK (dk ns fun n => .int (W n))])[st.length]? = some (.dK (dk ns fun n => .int (W n))) := by rw [app_at0]; rfl
    have h1 := hT p (st ++ [Cell.dK (dk ns fun n => .int (W n))]) F.okt
    have h2 := hS p.told st.length ns W _ F.okt (by have := F.lent; omega) F.cnt hq F.got
    have h3 := hW p hp
    have h4 := dk_put (f := fun n => Val.int (W n)) hnew (v := .int (W p.name)) rfl
    obtain ⟨kk, r, hv⟩ := pv_name p
    have h5 := putIx_str (a := p.name) (v := .int (W p.name)) hq (by rw [dk_len, szl]; omega)
    rw [h4, app_set0] at h5
    rw [← h3] at h2
    have h6 : oIx p.v (.int 1) (st ++ [Cell.dK (dk ns fun n => .int (W n))]) = some (.str p.name, st ++ [Cell.dK (dk ns fun n => .int (W n))]) := by
      rw [hv]; simp
    simp [b6_0, h1, h2, h6, h5])
  have hc : (st ++ [szT ps W])[st.length]? = some (szT ps W) := by rw [app_at0]; rfl
  rw [← gcR_ref (Nat.le_refl _) hc (fun _ q => by cases q)]
  have ht : tabOf (eOp2 oIx (eVar 0) (eC (.int 1))) [some (bookV nm ps), some (.ref st.length), none] (st ++ [.dK []]) = none := tabOf_tup (xs := ps.map Pt.v) (st1 := st ++ [.dK []]) (by simp [bookV])
  simp [m6, sForA_seq ht]
  simp [bookV] at e ⊢
  simp [e, szT]
end W64
namespace W64
open PySem PySem.Spec L2 EV
def xp (K : Str → List Sp) : Sp → List Sp
  | .go n => K n
  | s => [s]
def expand (K : Str → List Sp) (l : List Sp) : List Sp := l.flatMap (xp K)
theorem expand_len {K : Str → List Sp} {B : Nat} {l : List Sp} (h : ∀ n ∈ gos l, (K n).length ≤ B) (hB : 1 ≤ B) : (expand K l).length ≤ l.length * B := by
  induction l with
  | nil => simp [expand]
  | cons s l ih =>
    have h1 : (xp K s).length ≤ B := by
      cases s with
      | go n => exact h n (gos_mem.mpr (by simp))
      | leaf a b => exact hB
      | br a b c d => exact hB
    have h2 := ih fun n hn => h n (gos_mem.mpr (List.mem_cons_of_mem _ (gos_mem.mp hn)))
    unfold expand at h2 ⊢
    rw [List.flatMap_cons, List.length_append, List.length_cons, Nat.succ_mul]
    omega
theorem expand_oks {K : Str → List Sp} {l : List Sp} (hl : oks l) (h : ∀ n ∈ gos l, oks (K n)) : oks (expand K l) := (oks_iff _).mpr fun s hs => by
  obtain ⟨x, hx, hs⟩ := List.mem_flatMap.mp hs
  cases x with
  | go n => exact (oks_iff _).mp (h n (gos_mem.mpr hx)) s hs
  | leaf a b => rw [List.mem_singleton.mp hs]; exact (oks_iff _).mp hl _ hx
  | br a b c d => rw [List.mem_singleton.mp hs]; exact (oks_iff _).mp hl _ hx
theorem expand_take {K : Str → List Sp} {l : List Sp} {i : Nat} {s : Sp} (h : l[i]? = some s) : expand K (l.take (i + 1)) = expand K (l.take i) ++ xp K s := by
  unfold expand
  rw [List.take_succ, h]
  simp
theorem gos_take {l : List Sp} {i : Nat} {n : Str} (h : n ∈ gos (l.take i)) : n ∈ gos l := gos_mem.mpr (List.mem_of_mem_take (gos_mem.mp h))
theorem vsOf_app (a b : List Sp) : vsOf (a ++ b) = vsOf a ++ vsOf b := by simp [vsOf_map]
def DoneIn (f : Fun1) : Prop := ∀ (l : List Sp) (q : Nat) (ns : List Str) (K : Str → List Sp) (st : Store), oks l → l.length ≤ 6 → st[q]? = some (.dK (dk ns fun n => .tup (vsOf (K n)))) → (∀ n ∈ gos l, n ∈ ns) → (∀ n ∈ gos l, (K n).length ≤ 1000) → (∀ n ∈ gos l, oks (K n)) →
  f [.tup (vsOf l), .ref q] st = .ok (.tup (vsOf (expand K l))) st
theorem doneIn_ok (C : Nat → Fun1) : DoneIn (runF (m3 C) 4) := by
  intro l q ns K st hok hl hq hin hK hKo
  obtain ⟨ρ', s', e, o, rfl, rfl⟩ := for_rule (s := .vals (vsOf l)) (g := gSlot 3) (b := b3_0 C) (fun i ρ s => ∃ o, ρ = [some (.tup (vsOf l)), some (.ref q), some (.ref st.length), o] ∧ s = st ++ [.lst (vsOf (expand K (l.take i)))]) (vsOf l) (fun _ _ _ _ => trivial) (by
    rintro i x ρ s hx ⟨o, rfl, rfl⟩
    obtain ⟨sp, hsp, rfl⟩ := vs_get hx
    have hm := List.mem_of_getElem? hsp
    obtain ⟨op, r, h1, h2, h3⟩ := isdo ((oks_iff l).mp hok sp hm)
    have hil := (List.getElem?_eq_some_iff.mp hsp).1
    have hlen : (expand K (l.take i)).length ≤ 6 * 1000 := Nat.le_trans (expand_len (B := 1000) (fun n hn => hK n (gos_take hn)) (by omega)) (Nat.mul_le_mul_right _ (by rw [List.length_take]; omega))
    rw [expand_take hsp, vsOf_app]
    generalize expand K (l.take i) = ex at hlen ⊢
    have hq' := app_old (t := [Cell.lst (vsOf ex)]) hq
    have hz : (vsOf ex).length < 16777216 := by rw [vs_len]; omega
    refine ⟨_, _, st ++ [.lst (vsOf ex ++ vsOf (xp K sp))], by simp; rfl, .inl ?_, some sp.v, rfl, rfl⟩
    cases sp with
    | go n =>
      have := h3 n rfl
      subst this
      have hn : n ∈ gos l := gos_mem.mpr hm
      have hkn := hK n hn
      have hz2 : (vsOf ex).length + (vsOf (K n)).length ≤ 16777216 := by rw [vs_len, vs_len]; omega
      simp [b3_0, Sp.v, oIx_str hq', dk_get (hin n hn), mExtend_tupR, kExtT_l hz2, xp]
    | leaf a b =>
      have ha : ¬ (a = ("do" : Str)) := by have := (oks_iff l).mp hok _ hm; unfold Sp.Ok at this; exact this.1.1
      simp [b3_0, Sp.v, ha, mAppend_ref, kAppR_l hz, xp, vsOf]
    | br a b c d =>
      have ha : ¬ (a = ("do" : Str)) := by
        have := (oks_iff l).mp hok _ hm; unfold Sp.Ok at this
        rcases this.1 with rfl | rfl <;> simp
      simp [b3_0, Sp.v, ha, mAppend_ref, kAppR_l hz, xp, vsOf]) [some (.tup (vsOf l)), some (.ref q), some (.ref st.length), none] (st ++ [.lst []]) ⟨none, rfl, by simp [expand, vsOf]⟩
  rw [vs_len, List.take_length] at e
  have hf : (Val.tup (vsOf (expand K l))).flat = true := by rw [flat_tup]; exact fineAll_flat _ (oks_fine _ (expand_oks hok hKo))
  rw [← gcR_flat (t := [.lst (vsOf (expand K l))]) hf]
  have ht : tabOf (eVar 0) [some (.tup (vsOf l)), some (.ref q), some (.ref st.length), none] (st ++ [.lst []]) = none := tabOf_tup rfl
  simp [m3, sForA_seq ht, e, nTuple_ref, kTupR_l]
/-- what small parts settle to -/
def SeEq (ps : List Pt) (S : Str → List Sp) : Prop := ∀ p ∈ ps, S p.name = expand S p.told
theorem size_go {W : Str → Nat} {l : List Sp} {n : Str} (h : n ∈ gos l) : W n + 1 ≤ sizeE W l := by
  unfold sizeE
  have : ∀ m : List Str, n ∈ m → W n + 1 ≤ (m.map fun n => 1 + W n).sum := fun m => by
    induction m with
    | nil => intro h; cases h
    | cons a r ih =>
      intro h
      rw [List.map_cons, List.sum_cons]
      rcases List.mem_cons.mp h with rfl | h
      · omega
      · have := ih h; omega
  have := this _ h
  omega
/-- each name of a book by its part, the parts it goes to being earlier -/
theorem by_place {ps : List Pt} (hb : BookOk ps) {P : Str → Prop} (step : ∀ p ∈ ps, PtF (ps.map Pt.name) p → (∀ n ∈ gos p.all, P n) → P p.name) : ∀ n ∈ ps.map Pt.name, P n := by
  have go : ∀ i, ∀ n ∈ (ps.take i).map Pt.name, P n := by
    intro i
    induction i with
    | zero => intro n h; simp at h
    | succ i ih =>
      intro n h
      cases hp : ps[i]? with
      | none =>
        rw [List.take_succ, hp] at h
        simp at h
        exact ih n (by simpa using h)
      | some p =>
        rw [List.take_succ, hp, List.map_append] at h
        rcases List.mem_append.mp h with h | h
        · exact ih n h
        · have e : n = p.name := by simpa using h
          subst e
          have F := (hb.ok i p hp).f
          have sub : ∀ n ∈ (ps.take i).map Pt.name, n ∈ ps.map Pt.name := fun n hn => by
            obtain ⟨q, hq, rfl⟩ := List.mem_map.mp hn
            exact List.mem_map_of_mem (List.mem_of_mem_take hq)
          exact step p (List.mem_of_getElem? hp) ⟨F.oks, F.okt, F.len, F.lent, F.cnt, F.dp, fun n hn => sub n (F.go n hn), fun n hn => sub n (F.got n hn)⟩ fun n hn => ih n (F.go n hn)
  intro n h
  exact go ps.length n (by rwa [List.take_length])
theorem got_all {p : Pt} {n : Str} (h : n ∈ gos p.told) : n ∈ gos p.all := gos_mem.mpr (told_sub (gos_mem.mp h))
theorem expand_le {W : Str → Nat} {S : Str → List Sp} {l : List Sp} (h : ∀ n ∈ gos l, (S n).length ≤ W n) : (expand S l).length ≤ sizeE W l := by
  have : (expand S l).length ≤ cnts (plain l) + ((gos l).map fun n => 1 + W n).sum := by
    induction l with
    | nil => simp [expand]
    | cons s l ih =>
      have h2 := ih fun n hn => h n (gos_mem.mpr (List.mem_cons_of_mem _ (gos_mem.mp hn)))
      unfold expand at h2 ⊢
      rw [List.flatMap_cons, List.length_append]
      cases s with
      | go n =>
        have h3 := h n (gos_mem.mpr (by simp))
        have e1 : plain (Sp.go n :: l) = plain l := rfl
        have e2 : gos (Sp.go n :: l) = n :: gos l := rfl
        rw [e1, e2, List.map_cons, List.sum_cons]
        show (S n).length + _ ≤ _
        omega
      | leaf a b =>
        have e1 : plain (Sp.leaf a b :: l) = Sp.leaf a b :: plain l := rfl
        have e2 : gos (Sp.leaf a b :: l) = gos l := rfl
        rw [e1, e2, cnts, Sp.cnt]
        show 1 + _ ≤ _
        omega
      | br a b c d =>
        have e1 : plain (Sp.br a b c d :: l) = Sp.br a b c d :: plain l := rfl
        have e2 : gos (Sp.br a b c d :: l) = gos l := rfl
        have := (Sp.br a b c d).cnt_pos
        rw [e1, e2, cnts]
        show 1 + _ ≤ _
        omega
  exact this
theorem set_len {ps : List Pt} (hb : BookOk ps) {W : Str → Nat} {S : Str → List Sp} (hW : SzEq ps W) (hS : SeEq ps S) : ∀ n ∈ ps.map Pt.name, (S n).length ≤ W n ∧ oks (S n) :=
  by_place hb fun p hp F ih => by
    rw [hW p hp, hS p hp]
    exact ⟨expand_le fun n hn => (ih n (got_all hn)).1, expand_oks F.okt fun n hn => (ih n (got_all hn)).2⟩
def kn (W : Str → Nat) (S : Str → List Sp) (n : Str) : List Sp := if W n ≤ 40 then S n else []
theorem expand_congr {S T : Str → List Sp} {l : List Sp} (h : ∀ n ∈ gos l, S n = T n) : expand S l = expand T l := by
  unfold expand
  induction l with
  | nil => rfl
  | cons s l ih =>
    rw [List.flatMap_cons, List.flatMap_cons, ih fun n hn => h n (gos_mem.mpr (List.mem_cons_of_mem _ (gos_mem.mp hn)))]
    cases s with
    | go n => rw [show xp S (.go n) = S n from rfl, show xp T (.go n) = T n from rfl, h n (gos_mem.mpr (by simp))]
    | leaf a b => rfl
    | br a b c d => rfl
def AllSettled (f : Fun1) : Prop := ∀ (nm : List Val) (ps : List Pt) (W : Str → Nat) (S : Str → List Sp) (st : Store), BookOk ps → SzEq ps W → SeEq ps S → ∃ r st', f [bookV nm ps] st = .ok (.ref r) st' ∧ FR st st' ∧ st'[r]? = some (.dK (dk (ps.map Pt.name) fun n => .tup (vsOf (kn W S n))))
end W64
namespace W64
open PySem PySem.Spec L2 EV
theorem book_loop2 {b : Sm} {ps : List Pt} {st t : Store} {j : Nat} (f : Str → Val) (hb : BookOk ps) (ρ : Option Val → Slots)
    (step : ∀ (ns : List Str) (p : Pt) (o : Option Val), p ∈ ps → p.name ∉ ns → ns.length ≤ 6 → PtF ns p → ∃ ρ1, gSlot j p.v (ρ o) = some ρ1 ∧ b ρ1 (st ++ .dK (dk ns f) :: t) = .nx (ρ (some p.v)) (st ++ .dK (dk (ns ++ [p.name]) f) :: t)) :
    ∃ o, forL (.vals (ps.map Pt.v)) (gSlot j) b (ps.map Pt.v) (ρ none) (st ++ .dK [] :: t) = .nx (ρ o) (st ++ .dK (dk (ps.map Pt.name) f) :: t) := by
  obtain ⟨ρ', s', e, o, rfl, rfl⟩ := for_rule (s := .vals (ps.map Pt.v)) (g := gSlot j) (b := b) (fun k r s => ∃ o, r = ρ o ∧ s = st ++ .dK (dk ((ps.take k).map Pt.name) f) :: t) (ps.map Pt.v) (fun _ _ _ _ => trivial) (by
    rintro k x r s hx ⟨o, rfl, rfl⟩
    rw [List.getElem?_map, Option.map_eq_some_iff] at hx
    obtain ⟨p, hp, rfl⟩ := hx
    obtain ⟨ρ1, e1, e2⟩ := step ((ps.take k).map Pt.name) p o (List.mem_of_getElem? hp) (name_new hb hp) (by rw [List.length_map, List.length_take]; have := hb.len; omega) (hb.ok k p hp).f
    refine ⟨ρ1, _, _, e1, .inl e2, some p.v, rfl, ?_⟩
    rw [List.take_succ, hp]
    simp) (ρ none) (st ++ .dK [] :: t) ⟨none, rfl, by simp [dk]⟩
  rw [List.length_map, List.take_length] at e
  exact ⟨o, e⟩
theorem mem_name {ps : List Pt} {p : Pt} (h : p ∈ ps) : p.name ∈ ps.map Pt.name := List.mem_map_of_mem h
theorem allSettled_ok {C : Nat → Fun1} (hD : DoneIn (C 3)) (hT : ToldItems (C 5)) (hZ : ToldSizes (C 6)) : AllSettled (runF (m7 C) 4) := by
  intro nm ps W S st hb hW hS
  have hset := set_len hb hW hS
  obtain ⟨o, e⟩ := book_loop2 (b := b7_0 C) (ps := ps) (st := st) (t := [szT ps W]) (j := 3) (fun n => .tup (vsOf (kn W S n))) hb (fun o => [some (bookV nm ps), some (.ref st.length), some (.ref (st.length + 1)), o]) (fun ns p o hp hnew hl6 F => by
    refine ⟨_, by simp; rfl, ?_⟩
    let s0 : Store := st ++ .dK (dk ns fun n => .tup (vsOf (kn W S n))) :: [szT ps W]
    have hq : s0[st.length]? = some (.dK (dk ns fun n => .tup (vsOf (kn W S n)))) := by rw [app_at0]; rfl
    have hq2 : s0[st.length + 1]? = some (szT ps W) := by rw [app_at]; rfl
    have h1 := hT p s0 F.okt
    obtain ⟨kk, r, hv⟩ := pv_name p
    have h4 := dk_put (f := fun n => Val.tup (vsOf (kn W S n))) hnew (v := .tup (vsOf (kn W S p.name))) rfl
    have h5 := putIx_str (a := p.name) (v := .tup (vsOf (kn W S p.name))) hq (by rw [dk_len, szl]; omega)
    rw [h4, app_set0] at h5
    have h6 : oIx p.v (.int 1) s0 = some (.str p.name, s0) := by rw [hv]; simp
    have h7 : oIx (.ref (st.length + 1)) (.str p.name) s0 = some (.int (W p.name), s0) := by rw [oIx_str hq2, dk_get (mem_name hp)]; rfl
    have h8 : eIf (tOf (eOp2 oLe (eOp2 oIx (eVar 2) (eOp2 oIx (eVar 3) (eC (.int 1)))) (eC (.int 40)))) (eCall (C 3) (lCons (eCall (C 5) (lCons (eVar 3) (lNil))) (lCons (eVar 1) (lNil)))) (eTup (lNil)) [some (bookV nm ps), some (.ref st.length), some (.ref (st.length + 1)), some p.v] s0 = .ok (.tup (vsOf (kn W S p.name))) s0 := by
      by_cases hw : W p.name ≤ 40
      · have hk : ∀ n ∈ gos p.told, kn W S n = S n := fun n hn => by
          unfold kn
          rw [if_pos]
          have := size_go (W := W) hn
          rw [← hW p hp] at this
          omega
        have sub : ∀ n ∈ gos p.told, n ∈ ps.map Pt.name := fun n hn => by
          obtain ⟨i, hi⟩ := List.mem_iff_getElem?.mp hp
          obtain ⟨q, hq, rfl⟩ := List.mem_map.mp ((hb.ok i p hi).f.got n hn)
          exact mem_name (List.mem_of_mem_take hq)
        have h3 := hD p.told st.length ns (kn W S) s0 F.okt F.lent hq F.got (fun n hn => by
          rw [hk n hn]
          have h9 := (hset n (sub n hn)).1
          have h10 := size_go (W := W) hn
          rw [← hW p hp] at h10
          omega) (fun n hn => by rw [hk n hn]; exact (hset n (sub n hn)).2)
        rw [expand_congr hk, ← hS p hp] at h3
        have hkn : kn W S p.name = S p.name := if_pos hw
        have hwi : ((W p.name : Nat) : Int) ≤ 40 := by omega
        simp [h6, h7, hwi, h1, h3, hkn]
      · have hkn : kn W S p.name = [] := if_neg hw
        have hwi : ¬ ((W p.name : Nat) : Int) ≤ 40 := by omega
        simp [h6, h7, hwi, hkn, vsOf]
    show sPut _ _ _ _ s0 = _
    rw [show sPut (eVar 1) (eOp2 oIx (eVar 3) (eC (.int 1))) (eIf (tOf (eOp2 oLe (eOp2 oIx (eVar 2) (eOp2 oIx (eVar 3) (eC (.int 1)))) (eC (.int 40)))) (eCall (C 3) (lCons (eCall (C 5) (lCons (eVar 3) (lNil))) (lCons (eVar 1) (lNil)))) (eTup (lNil))) [some (bookV nm ps), some (.ref st.length), some (.ref (st.length + 1)), some p.v] s0 = kPut (eIf (tOf (eOp2 oLe (eOp2 oIx (eVar 2) (eOp2 oIx (eVar 3) (eC (.int 1)))) (eC (.int 40)))) (eCall (C 3) (lCons (eCall (C 5) (lCons (eVar 3) (lNil))) (lCons (eVar 1) (lNil)))) (eTup (lNil)) [some (bookV nm ps), some (.ref st.length), some (.ref (st.length + 1)), some p.v] s0) (eVar 1) (eOp2 oIx (eVar 3) (eC (.int 1))) [some (bookV nm ps), some (.ref st.length), some (.ref (st.length + 1)), some p.v] from rfl, h8]
    simp [h6, h5, s0])
  have hc : (st ++ .dK (dk (ps.map Pt.name) fun n => .tup (vsOf (kn W S n))) :: [szT ps W])[st.length]? = some (.dK (dk (ps.map Pt.name) fun n => .tup (vsOf (kn W S n)))) := by rw [app_at0]; rfl
  refine ⟨st.length, st ++ .dK (dk (ps.map Pt.name) fun n => .tup (vsOf (kn W S n))) :: [szT ps W], ?_, FR.app0 _ _, hc⟩
  rw [← gcR_ref (Nat.le_refl _) hc (fun _ q => by cases q)]
  have hz := hZ nm ps W (st ++ [.dK []]) hb hW
  have ht : tabOf (eOp2 oIx (eVar 0) (eC (.int 1))) [some (bookV nm ps), some (.ref st.length), some (.ref (st.length + 1)), none] (st ++ [.dK [], szT ps W]) = none := tabOf_tup (xs := ps.map Pt.v) (st1 := st ++ [.dK [], szT ps W]) (by simp [bookV])
  have E : m7 C (startS 4 [bookV nm ps]) st = .rt (.ref st.length) (st ++ .dK (dk (ps.map Pt.name) fun n => .tup (vsOf (kn W S n))) :: [szT ps W]) := by
    unfold m7
    refine seq_go (ρ1 := [some (bookV nm ps), some (.ref st.length), some (.ref (st.length + 1)), none]) (st1 := st ++ [.dK [], szT ps W]) (by simp [hz]) ?_
    refine seq_go (ρ1 := [some (bookV nm ps), some (.ref st.length), some (.ref (st.length + 1)), o]) (st1 := st ++ .dK (dk (ps.map Pt.name) fun n => .tup (vsOf (kn W S n))) :: [szT ps W]) ?_ (by simp)
    rw [sForA_seq ht, ← e]
    simp [bookV]
  show gcR st (bodyR (m7 C (startS 4 [bookV nm ps]) st)) = _
  rw [E]
  rfl
/-! ### one part called -/
def PartCalled (f : Fun1) : Prop := ∀ (nm : List Val) (ps : List Pt) (p : Pt) (st : Store), BookOk ps → p ∈ ps → f [bookV nm ps, .str p.name] st = .ok p.v st
theorem for_find {s : Src} {g : Tg} {b : Sm} {ρ : Option Val → Slots} {st : Store} (hh : s.here st) (xs : List Val) (i : Nat) (x : Val) (hx : xs[i]? = some x) (r : RS) (hr : ∀ o, ∃ ρ1, g x (ρ o) = some ρ1 ∧ b ρ1 st = r) (hr1 : ∀ ρ s, r ≠ .nx ρ s) (hr2 : ∀ ρ s, r ≠ .ct ρ s) (hr3 : ∀ ρ s, r ≠ .bk ρ s)
    (skip : ∀ j y o, j < i → xs[j]? = some y → ∃ ρ1, g y (ρ o) = some ρ1 ∧ b ρ1 st = .nx (ρ (some y)) st) : ∀ o, forL s g b xs (ρ o) st = r := by
  induction i generalizing xs with
  | zero =>
    intro o
    cases xs with
    | nil => simp at hx
    | cons y ys =>
      have e : y = x := by simpa using hx
      subst e
      obtain ⟨ρ1, e1, e2⟩ := hr o
      unfold forL
      rw [if_pos hh, e1]
      simp only [e2]
  | succ i ih =>
    intro o
    cases xs with
    | nil => simp at hx
    | cons y ys =>
      obtain ⟨ρ1, e1, e2⟩ := skip 0 y o (by omega) rfl
      unfold forL
      rw [if_pos hh, e1]
      simp only [e2]
      exact ih ys (by simpa using hx) (fun j z o hj hz => skip (j + 1) z o (by omega) (by simpa using hz)) (some y)
theorem partCalled_ok (C : Nat → Fun1) : PartCalled (runF (m8 C) 3) := by
  intro nm ps p st hb hp
  obtain ⟨i, hi⟩ := List.mem_iff_getElem?.mp hp
  have hf : p.v.flat = true := Val.fine_flat _ (hb.ok i p hi).fine
  rw [← gcR_flat0 hf]
  have e := for_find (s := .vals (ps.map Pt.v)) (g := gSlot 2) (b := b8_0 C) (ρ := fun o => [some (bookV nm ps), some (.str p.name), o]) (st := st) trivial (ps.map Pt.v) i p.v (by rw [List.getElem?_map, hi]; rfl) (.rt p.v st) (fun o => by
    obtain ⟨kk, r, hv⟩ := pv_name p
    refine ⟨_, by simp; rfl, ?_⟩
    simp [b8_0, hv]) (fun _ _ q => by cases q) (fun _ _ q => by cases q) (fun _ _ q => by cases q) (fun j y o hj hy => by
      rw [List.getElem?_map, Option.map_eq_some_iff] at hy
      obtain ⟨q, hq, rfl⟩ := hy
      obtain ⟨kk, r, hv⟩ := pv_name q
      have hne : ¬ q.name = p.name := fun e => name_new hb hi (by
        rw [← e]
        refine List.mem_map_of_mem (List.mem_iff_getElem?.mpr ⟨j, ?_⟩)
        rw [List.getElem?_take_of_lt hj]; exact hq)
      refine ⟨_, by simp; rfl, ?_⟩
      simp [b8_0, hv, hne]) none
  have ht : tabOf (eOp2 oIx (eVar 0) (eC (.int 1))) [some (bookV nm ps), some (.str p.name), none] st = none := tabOf_tup (xs := ps.map Pt.v) (st1 := st) (by simp [bookV])
  simp [m8, sForA_seq ht]
  simp [bookV] at e ⊢
  simp [e]
def Settled (f : Fun1) : Prop := ∀ (nm : List Val) (ps : List Pt) (p : Pt) (W : Str → Nat) (S : Str → List Sp) (st : Store), fineAll nm = true → BookOk ps → SzEq ps W → SeEq ps S → p ∈ ps → W p.name ≤ 40 → f [bookV nm ps, .str p.name] st = .ok (.tup [.tup nm, .tup (vsOf (S p.name))]) st
theorem settled_ok {C : Nat → Fun1} (hP : PartCalled (C 8)) (hZ : ToldSizes (C 6)) (hA : AllSettled (C 7)) : Settled (runF (m9 C) 3) := by
  intro nm ps p W S st hnm hb hW hS hp hw
  have h1 := hP nm ps p st hb hp
  have h2 := hZ nm ps W st hb hW
  obtain ⟨r, s3, h3, hfr, hr⟩ := hA nm ps W S (st ++ [szT ps W]) hb hW hS
  obtain ⟨kk, rr, hv⟩ := pv_name p
  have hq : (st ++ [szT ps W])[st.length]? = some (szT ps W) := by rw [app_at0]; rfl
  have h6 : ∀ s : Store, oIx p.v (.int 1) s = some (.str p.name, s) := fun s => by rw [hv]; simp
  have h7 : oIx (.ref st.length) (.str p.name) (st ++ [szT ps W]) = some (.int (W p.name), st ++ [szT ps W]) := by rw [oIx_str hq, dk_get (mem_name hp)]; rfl
  have hkn : kn W S p.name = S p.name := if_pos hw
  have h8 : oIx (.ref r) (.str p.name) s3 = some (.tup (vsOf (S p.name)), s3) := by rw [oIx_str hr, dk_get (mem_name hp), hkn]; rfl
  have hwi : ¬ (40 : Int) < ((W p.name : Nat) : Int) := by omega
  have hset := set_len hb hW hS p.name (mem_name hp)
  have hf : (Val.tup [.tup nm, .tup (vsOf (S p.name))]).flat = true := by simp [fineAll_flat _ hnm, fineAll_flat _ (oks_fine _ hset.2)]
  rw [← gcR_F (FR.of_app hfr) hf]
  have hix : oIx (bookV nm ps) (.int 0) (st ++ [szT ps W]) = some (.tup nm, st ++ [szT ps W]) := by simp [bookV]
  simp [m9, h1, h2, h6, h7, hwi, h3, h8, hix]
end W64
namespace W64
open PySem PySem.Spec L2 EV
def addU (l : List Str) (x : Str) : List Str := if x ∈ l then l else l ++ [x]
def uT (l : List Str) : List (Key × Val) := dk l fun _ => .bl true
theorem uT_put (l : List Str) (x : Str) : dput (uT l) (.inr x) (.bl true) = uT (addU l x) := by
  unfold addU
  split
  · rename_i h
    unfold uT dk dput
    have : ((l.map fun n => ((.inr n : Key), Val.bl true)).any fun kv => decide (kv.1 = (.inr x : Key))) = true := by
      rw [List.any_eq_true]
      exact ⟨(.inr x, .bl true), List.mem_map_of_mem h, by simp⟩
    rw [this, if_pos rfl, List.map_map]
    refine List.map_congr_left fun n _ => ?_
    show (if _ then _ else _) = _
    split <;> rfl
  · rename_i h
    exact dk_put h rfl
def uF (U : Str → List Str) (ms : List Str) : List Str := ms.foldl (fun acc m => (U m).foldl addU (addU acc m)) []
def UEq (ps : List Pt) (U : Str → List Str) : Prop := ∀ p ∈ ps, U p.name = uF U (gos p.all)
theorem addU_ok {l ns : List Str} {x : Str} (h : l.Nodup) (hs : ∀ y ∈ l, y ∈ ns) (hx : x ∈ ns) : (addU l x).Nodup ∧ ∀ y ∈ addU l x, y ∈ ns := by
  unfold addU
  split
  · exact ⟨h, hs⟩
  · rename_i hn
    refine ⟨List.nodup_append.mpr ⟨h, by simp, fun a ha b hb e => ?_⟩, fun y hy => ?_⟩
    · rw [List.mem_singleton.mp hb] at e; subst e; exact hn ha
    · rcases List.mem_append.mp hy with q | q
      · exact hs y q
      · rw [List.mem_singleton.mp q]; exact hx
theorem addUs_ok {ns : List Str} : ∀ (xs l : List Str), l.Nodup → (∀ y ∈ l, y ∈ ns) → (∀ x ∈ xs, x ∈ ns) → (xs.foldl addU l).Nodup ∧ ∀ y ∈ xs.foldl addU l, y ∈ ns
  | [], l, h, hs, _ => ⟨h, hs⟩
  | x :: xs, l, h, hs, hx => by
    obtain ⟨h1, h2⟩ := addU_ok h hs (hx x (List.mem_cons_self ..))
    exact addUs_ok xs _ h1 h2 fun y hy => hx y (List.mem_cons_of_mem _ hy)
theorem uFs_ok {ns : List Str} {U : Str → List Str} : ∀ (ms l : List Str), l.Nodup → (∀ y ∈ l, y ∈ ns) → (∀ m ∈ ms, m ∈ ns ∧ ∀ x ∈ U m, x ∈ ns) → (ms.foldl (fun acc m => (U m).foldl addU (addU acc m)) l).Nodup ∧ ∀ y ∈ ms.foldl (fun acc m => (U m).foldl addU (addU acc m)) l, y ∈ ns
  | [], l, h, hs, _ => ⟨h, hs⟩
  | m :: ms, l, h, hs, hm => by
    obtain ⟨h1, h2⟩ := addU_ok h hs (hm m (List.mem_cons_self ..)).1
    obtain ⟨h3, h4⟩ := addUs_ok (U m) _ h1 h2 (hm m (List.mem_cons_self ..)).2
    exact uFs_ok ms _ h3 h4 fun y hy => hm y (List.mem_cons_of_mem _ hy)
theorem nodup_le : ∀ {l ns : List Str}, l.Nodup → (∀ y ∈ l, y ∈ ns) → l.length ≤ ns.length
  | [], ns, _, _ => Nat.zero_le _
  | x :: l, ns, h, hs => by
    have hx := hs x (List.mem_cons_self ..)
    obtain ⟨h1, h2⟩ := List.nodup_cons.mp h
    have ih := nodup_le (ns := ns.erase x) h2 fun y hy => (List.mem_erase_of_ne (fun e => h1 (by rw [← e]; exact hy))).mpr (hs y (List.mem_cons_of_mem _ hy))
    rw [List.length_erase_of_mem hx] at ih
    have := List.length_pos_of_mem hx
    rw [List.length_cons]
    omega
theorem unlock_ok {r : Nat} {c c' : Cell} {ρ : Slots} {st : Store} (h : st[r]? = some c') : unlock r c c' (.nx ρ st) = .nx ρ (st.set r c) := by
  simp only [unlock]
  rw [if_pos h]
theorem u_ok {ps : List Pt} (hb : BookOk ps) {U : Str → List Str} (hU : UEq ps U) : ∀ n ∈ ps.map Pt.name, (U n).Nodup ∧ ∀ y ∈ U n, y ∈ ps.map Pt.name :=
  by_place hb fun p hp F ih => by
    rw [hU p hp]
    exact uFs_ok _ _ List.nodup_nil (by simp) fun m hm => ⟨F.go m hm, (ih m hm).2⟩
theorem u_len {ps : List Pt} (hb : BookOk ps) {l : List Str} (h : l.Nodup) (hs : ∀ y ∈ l, y ∈ ps.map Pt.name) : l.length ≤ 6 := by
  have := nodup_le h hs
  rw [List.length_map] at this
  exact Nat.le_trans this hb.len
/-- the walk over a table that stands, another one being written -/
theorem walk_tab {C : Nat → Fun1} {st : Store} {kr r f : Nat} {kvs : List (Key × Val)} {ks l : List Str} {m : Str} {x0 x1 x2 x4 x6 x7 : Option Val} (hk : st[kr]? = some (.dK kvs)) (hm : dget kvs (.inr m) = some (.ref r)) (hr : st[r]? = some (.dK (uT ks))) (hf : st[f]? = some (.dK (uT l)))
    (n1 : kr ≠ r) (n2 : kr ≠ f) (n3 : r ≠ f) (hlen : l.length + ks.length ≤ 1000) :
    ∃ o, sForA (eOp2 oIx (eVar 3) (eVar 6)) (gSlot 7) (b11_1 C) [x0, x1, x2, some (.ref kr), x4, some (.ref f), some (.str m), x7] st = .nx [x0, x1, x2, some (.ref kr), x4, some (.ref f), some (.str m), o] (st.set f (.dK (uT (ks.foldl addU l)))) := by
  let c' : Cell := .fK (uT ks)
  let xs : List Val := (uT ks).map fun kv => keyV kv.1
  have hxs : xs = ks.map Val.str := by
    show (uT ks).map _ = _
    unfold uT dk
    rw [List.map_map]
    rfl
  have e0 : ∀ s : Store, s[kr]? = some (.dK kvs) → eOp2 oIx (eVar 3) (eVar 6) [x0, x1, x2, some (.ref kr), x4, some (.ref f), some (.str m), x7] s = .ok (.ref r) s := fun s hs => by
    simp [oIx_str hs, hm]
  have ht : tabOf (eOp2 oIx (eVar 3) (eVar 6)) [x0, x1, x2, some (.ref kr), x4, some (.ref f), some (.str m), x7] st = some (r, .dK (uT ks), c', xs) := by
    unfold tabOf
    rw [e0 st hk]
    simp only [hr]
    rfl
  let st1 : Store := st.set r c'
  have hk1 : st1[kr]? = some (.dK kvs) := set_old hk n1
  have hf1 : st1[f]? = some (.dK (uT l)) := set_old hf n3.symm
  have hr1 : st1[r]? = some c' := set_at (lt_of_at hr)
  obtain ⟨ρ', s', e, o, rfl, rfl⟩ := for_rule (s := .frz r c' xs) (g := gSlot 7) (b := b11_1 C) (fun i ρ s => ∃ o, ρ = [x0, x1, x2, some (.ref kr), x4, some (.ref f), some (.str m), o] ∧ s = st1.set f (.dK (uT ((ks.take i).foldl addU l)))) xs (fun i ρ s ⟨_, _, h⟩ => by
      subst h
      exact set_old hr1 n3) (by
    rintro i x ρ s hx ⟨o, rfl, rfl⟩
    rw [hxs, List.getElem?_map, Option.map_eq_some_iff] at hx
    obtain ⟨n, hn, rfl⟩ := hx
    have hlt := (List.getElem?_eq_some_iff.mp hn).1
    have hl2 : ∀ (a b : List Str), (b.foldl addU a).length ≤ a.length + b.length := fun a b => by
      induction b generalizing a with
      | nil => exact Nat.le_refl _
      | cons x b ih =>
        have h1 := ih (addU a x)
        have h2 : (addU a x).length ≤ a.length + 1 := by unfold addU; split <;> simp
        rw [List.foldl_cons, List.length_cons]
        omega
    have hlen2 := hl2 l (ks.take i)
    rw [List.length_take] at hlen2
    have h3 : (st1.set f (.dK (uT ((ks.take i).foldl addU l))))[f]? = some (.dK (uT ((ks.take i).foldl addU l))) := set_at (lt_of_at hf1)
    have h4 := putIx_str (a := n) (v := .bl true) h3 (by unfold uT; rw [dk_len, szl]; omega)
    rw [uT_put, List.set_set] at h4
    refine ⟨_, _, st1.set f (.dK (uT ((ks.take (i + 1)).foldl addU l))), by simp; rfl, .inl ?_, some (.str n), rfl, rfl⟩
    rw [List.take_succ, hn]
    simp [b11_1]
    simp [h4]) [x0, x1, x2, some (.ref kr), x4, some (.ref f), some (.str m), x7] st1 ⟨x7, rfl, by
      show st1 = st1.set f (.dK (uT l))
      refine (List.ext_getElem? fun q => ?_)
      by_cases hq : q = f
      · subst hq; rw [set_at (lt_of_at hf1), hf1]
      · rw [List.getElem?_set_ne (Ne.symm hq)]⟩
  have hl3 : ks.take xs.length = ks := by rw [hxs, List.length_map, List.take_length]
  rw [hl3] at e
  refine ⟨o, ?_⟩
  unfold sForA
  rw [ht]
  simp only
  rw [if_pos (e0 st1 hk1)]
  show unlock r (.dK (uT ks)) c' (forL (.frz r c' xs) (gSlot 7) (b11_1 C) xs [x0, x1, x2, some (.ref kr), x4, some (.ref f), some (.str m), x7] st1) = _
  rw [e]
  have h9 : (st1.set f (.dK (uT (ks.foldl addU l))))[r]? = some c' := set_old hr1 n3
  rw [unlock_ok h9]
  congr 1
  show ((st.set r c').set f _).set r _ = st.set f _
  refine (List.ext_getElem? fun q => ?_)
  by_cases hq : q = r
  · subst hq
    rw [set_at (by rw [List.length_set, List.length_set]; exact lt_of_at hr), List.getElem?_set_ne n3.symm, hr]
  · rw [List.getElem?_set_ne (Ne.symm hq)]
    by_cases hq2 : q = f
    · subst hq2
      rw [set_at (by rw [List.length_set]; exact lt_of_at hf), set_at (lt_of_at hf)]
    · rw [List.getElem?_set_ne (Ne.symm hq2), List.getElem?_set_ne (Ne.symm hq), List.getElem?_set_ne (Ne.symm hq2)]
end W64
namespace W64
open PySem PySem.Spec L2 EV
theorem uF_take {U : Str → List Str} {ms : List Str} {i : Nat} {m : Str} (h : ms[i]? = some m) : uF U (ms.take (i + 1)) = (U m).foldl addU (addU (uF U (ms.take i)) m) := by
  unfold uF
  rw [List.take_succ, h, List.foldl_append]
  rfl
theorem mid_loop {C : Nat → Fun1} {s0 : Store} {kr f r0 : Nat} {kvs : List (Key × Val)} {R : Str → Nat} {U : Str → List Str} {ms : List Str} {x0 x1 x2 x4 x6 x7 : Option Val} (hk : s0[kr]? = some (.dK kvs)) (hf : s0[f]? = some (.dK (uT []))) (h0 : s0[r0]? = some (.lst (ms.map Val.str)))
    (hm : ∀ m ∈ ms, dget kvs (.inr m) = some (.ref (R m)) ∧ s0[R m]? = some (.dK (uT (U m))) ∧ R m ≠ kr ∧ R m ≠ f) (n1 : kr ≠ f) (n2 : r0 ≠ f) (hl : ∀ i, (uF U (ms.take i)).length ≤ 6) (hu : ∀ m ∈ ms, (U m).length ≤ 6) :
    ∃ o6 o7, forL (.cell r0 (ms.map Val.str)) (gSlot 6) (b11_2 C) (ms.map Val.str) [x0, x1, x2, some (.ref kr), x4, some (.ref f), x6, x7] s0 = .nx [x0, x1, x2, some (.ref kr), x4, some (.ref f), o6, o7] (s0.set f (.dK (uT (uF U ms)))) := by
  have lf := lt_of_at hf
  obtain ⟨ρ', s', e, o6, o7, rfl, rfl⟩ := for_rule (s := .cell r0 (ms.map Val.str)) (g := gSlot 6) (b := b11_2 C) (fun i ρ s => ∃ o6 o7, ρ = [x0, x1, x2, some (.ref kr), x4, some (.ref f), o6, o7] ∧ s = s0.set f (.dK (uT (uF U (ms.take i))))) (ms.map Val.str) (fun i ρ s ⟨_, _, _, h⟩ => by
      subst h
      exact .inl (set_old h0 n2)) (by
    rintro i x ρ s hx ⟨o6, o7, rfl, rfl⟩
    rw [List.getElem?_map, Option.map_eq_some_iff] at hx
    obtain ⟨m, hmi, rfl⟩ := hx
    have hmem := List.mem_of_getElem? hmi
    obtain ⟨g1, g2, g3, g4⟩ := hm m hmem
    have hli := hl i
    rw [uF_take hmi]
    generalize uF U (ms.take i) = acc at hli ⊢
    have h3 : (s0.set f (.dK (uT acc)))[f]? = some (.dK (uT acc)) := set_at lf
    have h4 := putIx_str (a := m) (v := .bl true) h3 (by unfold uT; rw [dk_len, szl]; omega)
    rw [uT_put, List.set_set] at h4
    let s1 : Store := s0.set f (.dK (uT (addU acc m)))
    have hal : (addU acc m).length ≤ 7 := by
      unfold addU
      split
      · omega
      · rw [List.length_append, List.length_singleton]; omega
    obtain ⟨o, e⟩ := walk_tab (C := C) (st := s1) (kr := kr) (r := R m) (f := f) (kvs := kvs) (ks := U m) (l := addU acc m) (m := m) (x0 := x0) (x1 := x1) (x2 := x2) (x4 := x4) (x6 := none) (x7 := o7) (set_old hk n1) g1 (set_old g2 g4) (set_at lf) g3.symm n1 g4 (by have := hu m hmem; omega)
    refine ⟨_, _, s1.set f (.dK (uT ((U m).foldl addU (addU acc m)))), rfl, .inl ?_, some (.str m), o, rfl, by show (s0.set f _).set f _ = _; rw [List.set_set]⟩
    unfold b11_2
    refine seq_go (ρ1 := [x0, x1, x2, some (.ref kr), x4, some (.ref f), some (.str m), o7]) (st1 := s1) (by simp [h4, s1]) e) [x0, x1, x2, some (.ref kr), x4, some (.ref f), x6, x7] s0 ⟨x6, x7, rfl, by
      refine (List.ext_getElem? fun q => ?_)
      by_cases hq : q = f
      · subst hq; rw [set_at lf, hf]; simp [uF]
      · rw [List.getElem?_set_ne (Ne.symm hq)]⟩
  rw [List.length_map, List.take_length] at e
  exact ⟨o6, o7, e⟩
def rowOf (ps : List Pt) (l : List Str) : List Val := ((ps.map Pt.name).filter fun n => decide (n ∈ l)).map Val.str
def UsesOk (f : Fun1) : Prop := ∀ (nm : List Val) (ps : List Pt) (p : Pt) (U : Str → List Str) (st : Store), BookOk ps → UEq ps U → p ∈ ps → f [bookV nm ps, .str p.name] st = .ok (.tup (rowOf ps (U p.name))) st
theorem all_expr (p : Pt) (st : Store) (h : p.all.length ≤ 6) (x0 x1 x2 x3 x5 x6 x7 : Option Val) : eIf (tOf (eOp2 oEq (eOp2 oIx (eVar 4) (eC (.int 0))) (eC (.str "program")))) (eOp2 oIx (eVar 4) (eC (.int 2))) (eOp2 oAdd (eOp2 oIx (eVar 4) (eC (.int 3))) (eOp2 oIx (eVar 4) (eC (.int 4)))) [x0, x1, x2, x3, some p.v, x5, x6, x7] st = .ok (.tup (vsOf p.all)) st := by
  cases p with
  | prog n ss => simp [Pt.v, Pt.all]
  | loop n t ss told w =>
    have h' : ss.length + told.length ≤ 16777216 := by
      have : (ss ++ told).length ≤ 6 := h
      rw [List.length_append] at this
      omega
    simp [Pt.v, Pt.all, oAdd_tup, vs_len, h', vsOf_app]
theorem uses_ok {C : Nat → Fun1} (hP : PartCalled (C 8)) (hN : NamesDone (C 10)) : UsesOk (runF (m11 C) 8) := by
  intro nm ps p U st hb hU hp
  have hu := u_ok hb hU
  have hw := for_rule (s := .vals (ps.map Pt.v)) (g := gSlot 4) (b := b11_3 C) (fun i ρ s => ∃ (o4 o5 o6 o7 : Option Val) (R : Str → Nat), ρ = [some (bookV nm ps), some (.str p.name), some p.v, some (.ref st.length), o4, o5, o6, o7] ∧ FR st s ∧ s[st.length]? = some (.dK (dk ((ps.take i).map Pt.name) fun n => .ref (R n))) ∧
      ∀ n ∈ (ps.take i).map Pt.name, s[R n]? = some (.dK (uT (U n))) ∧ R n ≠ st.length) (ps.map Pt.v) (fun _ _ _ _ => trivial) (by
    rintro i x ρ s hx ⟨o4, o5, o6, o7, R, rfl, hfr, hk, hR⟩
    rw [List.getElem?_map, Option.map_eq_some_iff] at hx
    obtain ⟨q, hq, rfl⟩ := hx
    have hqm := List.mem_of_getElem? hq
    have F := (hb.ok i q hq).f
    have hnew := name_new hb hq
    have hl6 : ((ps.take i).map Pt.name).length ≤ 6 := by rw [List.length_map, List.length_take]; have := hb.len; omega
    have hsub : ∀ n ∈ (ps.take i).map Pt.name, n ∈ ps.map Pt.name := fun n hn => by
      obtain ⟨a, ha, rfl⟩ := List.mem_map.mp hn
      exact mem_name (List.mem_of_mem_take ha)
    have htk : (ps.take (i + 1)).map Pt.name = (ps.take i).map Pt.name ++ [q.name] := by rw [List.take_succ, hq]; simp
    rw [htk]
    generalize (ps.take i).map Pt.name = ns at hk hR F hnew hl6 hsub ⊢
    have lk := lt_of_at hk
    have hlen := hfr.len
    have hRlt : ∀ n ∈ ns, R n < s.length := fun n hn => lt_of_at (hR n hn).1
    let s0 : Store := s ++ [.dK (uT []), .lst ((gos q.all).map Val.str)]
    have hfr0 : FR st s0 := hfr.app _
    have hf0 : s0[s.length]? = some (.dK (uT [])) := by rw [app_at0]; rfl
    have hr0 : s0[s.length + 1]? = some (.lst ((gos q.all).map Val.str)) := by rw [app_at]; rfl
    have hk0 : s0[st.length]? = some (.dK (dk ns fun n => .ref (R n))) := app_old hk
    have hpre : ∀ k, (uF U ((gos q.all).take k)).Nodup ∧ ∀ y ∈ uF U ((gos q.all).take k), y ∈ ps.map Pt.name := fun k => uFs_ok _ _ List.nodup_nil (by simp) fun m hm => by
      have := F.go m (List.mem_of_mem_take hm)
      exact ⟨hsub m this, (hu m (hsub m this)).2⟩
    obtain ⟨p6, p7, e⟩ := mid_loop (C := C) (s0 := s0) (kr := st.length) (f := s.length) (r0 := s.length + 1) (kvs := dk ns fun n => .ref (R n)) (R := R) (U := U) (ms := gos q.all) (x0 := some (bookV nm ps)) (x1 := some (.str p.name)) (x2 := some p.v) (x4 := some q.v) (x6 := o6) (x7 := o7) hk0 hf0 hr0
      (fun m hm => ⟨dk_get (F.go m hm), app_old (hR m (F.go m hm)).1, (hR m (F.go m hm)).2, by have := hRlt m (F.go m hm); omega⟩) (by omega) (by omega) (fun k => u_len hb (hpre k).1 (hpre k).2) (fun m hm => u_len hb (hu m (hsub m (F.go m hm))).1 (hu m (hsub m (F.go m hm))).2)
    rw [← hU q hqm] at e
    let s1 : Store := s0.set s.length (.dK (uT (U q.name)))
    have hk1 : s1[st.length]? = some (.dK (dk ns fun n => .ref (R n))) := set_old hk0 (by omega)
    have hf1 : s1[s.length]? = some (.dK (uT (U q.name))) := set_at (lt_of_at hf0)
    let R' : Str → Nat := fun n => if n = q.name then s.length else R n
    have hR' : ∀ n ∈ ns, R' n = R n := fun n hn => if_neg fun e => hnew (by rw [← e]; exact hn)
    have hdk : dk ns (fun n => Val.ref (R n)) = dk ns fun n => .ref (R' n) := dk_congr fun n hn => by rw [hR' n hn]
    have hR1 : R' q.name = s.length := if_pos rfl
    have h4 := dk_put (f := fun n => Val.ref (R' n)) hnew (v := .ref s.length) (by rw [hR1])
    have h5 := putIx_str (a := q.name) (v := .ref s.length) hk1 (by rw [dk_len, szl]; omega)
    rw [hdk, h4] at h5
    obtain ⟨kk, r, hv⟩ := pv_name q
    have h6 : ∀ s : Store, oIx q.v (.int 1) s = some (.str q.name, s) := fun s => by rw [hv]; simp
    have hc10 := hN q.all (s ++ [.dK (uT [])]) F.oks (by have := F.len; omega)
    have hl1 : (s ++ [Cell.dK (uT [])]).length = s.length + 1 := by simp
    rw [hl1] at hc10
    have hs0 : s ++ [Cell.dK (uT [])] ++ [.lst ((gos q.all).map Val.str)] = s0 := by simp [s0]
    rw [hs0] at hc10
    have hcall : eCall (C 10) (lCons (eIf (tOf (eOp2 oEq (eOp2 oIx (eVar 4) (eC (.int 0))) (eC (.str "program")))) (eOp2 oIx (eVar 4) (eC (.int 2))) (eOp2 oAdd (eOp2 oIx (eVar 4) (eC (.int 3))) (eOp2 oIx (eVar 4) (eC (.int 4))))) lNil) [some (bookV nm ps), some (.str p.name), some p.v, some (.ref st.length), some q.v, some (.ref s.length), o6, o7] (s ++ [Cell.dK (uT [])]) = .ok (.ref (s.length + 1)) s0 := by
      show Res.bind (lCons _ lNil _ _) _ = _
      rw [lCons_k, all_expr q _ F.len]
      simp only [kCons_k, lNil_k, jCons_k]
      exact hc10
    have ht : tabOf (eCall (C 10) (lCons (eIf (tOf (eOp2 oEq (eOp2 oIx (eVar 4) (eC (.int 0))) (eC (.str "program")))) (eOp2 oIx (eVar 4) (eC (.int 2))) (eOp2 oAdd (eOp2 oIx (eVar 4) (eC (.int 3))) (eOp2 oIx (eVar 4) (eC (.int 4))))) lNil)) [some (bookV nm ps), some (.str p.name), some p.v, some (.ref st.length), some q.v, some (.ref s.length), o6, o7] (s ++ [Cell.dK (uT [])]) = none := by
      unfold tabOf
      rw [hcall]
      have : (s ++ [Cell.dK (uT [])])[s.length + 1]? = none := by rw [List.getElem?_eq_none_iff]; simp
      simp [this]
    refine ⟨_, _, s1.set st.length (.dK (dk (ns ++ [q.name]) fun n => .ref (R' n))), by simp; rfl, .inl ?_, some q.v, some (.ref s.length), p6, p7, R', rfl, (hfr0.set hlen).set (Nat.le_refl _), set_at (lt_of_at hk1), fun n hn => ?_⟩
    · unfold b11_3
      refine seq_go (ρ1 := [some (bookV nm ps), some (.str p.name), some p.v, some (.ref st.length), some q.v, some (.ref s.length), o6, o7]) (st1 := s ++ [.dK (uT [])]) (by simp [uT, dk]) ?_
      refine seq_go (ρ1 := [some (bookV nm ps), some (.str p.name), some p.v, some (.ref st.length), some q.v, some (.ref s.length), p6, p7]) (st1 := s1) ?_ ?_
      · rw [sForA_seq ht]
        show (((eCall (C 10) _ _ _).bind _).thenS _ _) = _
        rw [hcall]
        simp only [Res.bind_ok, hr0, Res.thenS_ok]
        exact e
      · simp [h6, h5]
    · rcases List.mem_append.mp hn with h | h
      · rw [hR' n h]
        exact ⟨set_old (set_old (app_old (hR n h).1) (by have := hRlt n h; omega)) (hR n h).2, (hR n h).2⟩
      · rw [List.mem_singleton.mp h, hR1]
        exact ⟨set_old hf1 (by omega), by omega⟩) [some (bookV nm ps), some (.str p.name), some p.v, some (.ref st.length), none, none, none, none] (st ++ [.dK []]) ⟨none, none, none, none, fun _ => 0, rfl, FR.app0 _ _, by rw [app_at0]; rfl, by simp⟩
  obtain ⟨ρ', s', e, o4, o5, o6, o7, R, rfl, hfr, hk, hR⟩ := hw
  rw [List.length_map, List.take_length] at hk hR
  have hRp := hR p.name (mem_name hp)
  have hc := comp_pure (s := .vals (ps.map Pt.v)) (g := gSlot 4) (t := t11_0 C) (e := e11_0 C) (ρ := [some (bookV nm ps), some (.str p.name), some p.v, some (.ref st.length), none, o5, o6, o7]) (st := s') (fun v => match v with
    | .tup (_ :: .str n :: _) => if n ∈ U p.name then some (.str n) else none
    | _ => none) trivial (ps.map Pt.v) (fun v hv => by
      obtain ⟨q, hq, rfl⟩ := List.mem_map.mp hv
      obtain ⟨kk, r, hv⟩ := pv_name q
      obtain ⟨kk2, r2, hv2⟩ := pv_name p
      have hin : oIn (.str q.name) (.ref (R p.name)) s' = some (.bl (decide (q.name ∈ U p.name)), s') := by
        unfold oIn isIn
        simp only [hRp.1, keyOf, Option.map_some]
        rw [show dget (uT (U p.name)) (.inr q.name) = dget (dk (U p.name) fun _ => .bl true) (.inr q.name) from rfl, dk_has]
      have hix : oIx (.ref st.length) (.str p.name) s' = some (.ref (R p.name), s') := by rw [oIx_str hk, dk_get (mem_name hp)]; rfl
      refine ⟨_, by simp; rfl, ?_⟩
      by_cases hd : q.name ∈ U p.name
      · left; exact ⟨.str q.name, by simp [t11_0, hv, hv2, hix, hin, hd], by simp [e11_0, hv], by rw [hv]; simp [hd]⟩
      · right; exact ⟨by simp [t11_0, hv, hv2, hix, hin, hd], by rw [hv]; simp [hd]⟩)
  have hrow : (ps.map Pt.v).filterMap (fun v => match v with
    | .tup (_ :: .str n :: _) => if n ∈ U p.name then some (Val.str n) else none
    | _ => none) = rowOf ps (U p.name) := by
    unfold rowOf
    clear hc e hk hR hRp hfr
    generalize U p.name = l
    clear hp hu hU hb
    induction ps with
    | nil => rfl
    | cons a r ih =>
      obtain ⟨kk, rr, hv⟩ := pv_name a
      rw [List.map_cons, List.map_cons]
      by_cases hd : a.name ∈ l
      · rw [List.filterMap_cons_some (b := .str a.name) (by rw [hv]; simp [hd]), List.filter_cons_of_pos (by simp [hd]), List.map_cons, ih]
      · rw [List.filterMap_cons_none (by rw [hv]; simp [hd]), List.filter_cons_of_neg (by simp [hd]), ih]
  rw [hrow] at hc
  have hf : (Val.tup (rowOf ps (U p.name))).flat = true := by rw [flat_tup]; exact flat_strs _
  have hz : (rowOf ps (U p.name)).length ≤ sizeLine := by
    unfold rowOf
    rw [List.length_map, szl]
    have := List.length_filter_le (fun n => decide (n ∈ U p.name)) (ps.map Pt.name)
    rw [List.length_map] at this
    have := hb.len
    omega
  have ht : tabOf (eOp2 oIx (eVar 0) (eC (.int 1))) [some (bookV nm ps), some (.str p.name), some p.v, some (.ref st.length), none, none, none, none] (st ++ [.dK []]) = none := tabOf_tup (xs := ps.map Pt.v) (st1 := st ++ [.dK []]) (by simp [bookV])
  have hpc := hP nm ps p st hb hp
  have E : m11 C (startS 8 [bookV nm ps, .str p.name]) st = .rt (.tup (rowOf ps (U p.name))) (s' ++ [.lst (rowOf ps (U p.name))]) := by
    unfold m11
    refine seq_go (ρ1 := [some (bookV nm ps), some (.str p.name), some p.v, some (.ref st.length), none, none, none, none]) (st1 := st ++ [.dK []]) (by simp [hpc]) ?_
    refine seq_go (ρ1 := [some (bookV nm ps), some (.str p.name), some p.v, some (.ref st.length), o4, o5, o6, o7]) (st1 := s') ?_ ?_
    · rw [sForA_seq ht, ← e]
      simp [bookV]
    · simp [bookV] at hc ⊢
      simp [hc, jComp_ok hz, nTuple_ref, kTupR_l]
  show gcR st (bodyR (m11 C (startS 8 [bookV nm ps, .str p.name]) st)) = _
  rw [E]
  exact gcR_F (hfr.app _) hf
end W64
namespace W64
open PySem PySem.Spec L2 EV
/-! ### the law's own reading -/
theorem set_go {a : Ev} {g : Tg} {ρ ρ1 : Slots} {st st1 : Store} {v : Val} (h : a ρ st = .ok v st1) (hg : g v ρ = some ρ1) : sSet a g ρ st = .nx ρ1 st1 := by
  show (a ρ st).thenS ρ _ = _
  rw [h]
  show (match g v ρ with
    | some ρ => RS.nx ρ st1
    | none => .bad) = _
  rw [hg]
theorem op2_go {f : Op2} {a b : Ev} {ρ : Slots} {st s1 s2 s3 : Store} {x y z : Val} (h1 : a ρ st = .ok x s1) (h2 : b ρ s1 = .ok y s2) (h3 : f x y s2 = some (z, s3)) : eOp2 f a b ρ st = .ok z s3 := by
  show (a ρ st).bind _ = _
  rw [h1]
  show (b ρ s1).bind _ = _
  rw [h2]
  show ofO (f x y s2) = _
  rw [h3]; rfl
def pvOf (ps : List Pt) (n : Str) : Val := ((ps.find? fun p => decide (p.name = n)).map Pt.v).getD .non
theorem find_name {ps : List Pt} (hb : BookOk ps) {p : Pt} (hp : p ∈ ps) : ps.find? (fun q => decide (q.name = p.name)) = some p := by
  have hnd := hb.nd
  clear hb
  induction ps with
  | nil => cases hp
  | cons a r ih =>
    rw [List.map_cons, List.nodup_cons] at hnd
    by_cases h : a.name = p.name
    · rw [List.find?_cons_of_pos (by simpa using h)]
      rcases List.mem_cons.mp hp with e | e
      · rw [e]
      · exact absurd (show p.name ∈ r.map Pt.name from List.mem_map_of_mem e) (by rw [← h]; exact hnd.1)
    · rw [List.find?_cons_of_neg (by simpa using h)]
      rcases List.mem_cons.mp hp with e | e
      · exact absurd (by rw [e]) h
      · exact ih e hnd.2
theorem pvOf_eq {ps : List Pt} (hb : BookOk ps) {p : Pt} (hp : p ∈ ps) : pvOf ps p.name = p.v := by unfold pvOf; rw [find_name hb hp]; rfl
def ptT (ps : List Pt) : Cell := .dK (dk (ps.map Pt.name) (pvOf ps))
def ByName (f : Fun1) : Prop := ∀ (nm : List Val) (ps : List Pt) (st : Store), BookOk ps → f [bookV nm ps] st = .ok (.ref st.length) (st ++ [ptT ps])
theorem byName_ok (C : Nat → Fun1) : ByName (runF (m12 C) 3) := by
  intro nm ps st hb
  obtain ⟨o, e⟩ := book_loop2 (b := b12_0 C) (ps := ps) (st := st) (t := []) (j := 2) (pvOf ps) hb (fun o => [some (bookV nm ps), some (.ref st.length), o]) (fun ns p o hp hnew hl6 F => by
    refine ⟨_, by simp; rfl, ?_⟩
    have hq : (st ++ [Cell.dK (dk ns (pvOf ps))])[st.length]? = some (.dK (dk ns (pvOf ps))) := by rw [app_at0]; rfl
    have h4 := dk_put (f := pvOf ps) hnew (v := p.v) (pvOf_eq hb hp)
    obtain ⟨kk, r, hv⟩ := pv_name p
    have h5 := putIx_str (a := p.name) (v := p.v) hq (by rw [dk_len, szl]; omega)
    rw [h4, app_set0] at h5
    have h6 : ∀ s : Store, oIx p.v (.int 1) s = some (.str p.name, s) := fun s => by rw [hv]; simp
    simp [b12_0, h6, h5])
  have hc : (st ++ [ptT ps])[st.length]? = some (ptT ps) := by rw [app_at0]; rfl
  rw [← gcR_ref (Nat.le_refl _) hc (fun _ q => by cases q)]
  have ht : tabOf (eOp2 oIx (eVar 0) (eC (.int 1))) [some (bookV nm ps), some (.ref st.length), none] (st ++ [.dK []]) = none := tabOf_tup (xs := ps.map Pt.v) (st1 := st ++ [.dK []]) (by simp [bookV])
  simp [m12, sForA_seq ht]
  simp [bookV] at e ⊢
  simp [e, ptT]
theorem told_expr (p : Pt) (i : Nat) (ρ : Slots) (st : Store) (h : ρ[i]? = some (some p.v)) : eIf (tOf (eOp2 oEq (eOp2 oIx (eVar i) (eC (.int 0))) (eC (.str "program")))) (eOp2 oIx (eVar i) (eC (.int 2))) (eOp2 oIx (eVar i) (eC (.int 4))) ρ st = .ok (.tup (vsOf p.told)) st := by
  cases p with
  | prog n ss => simp [h, Pt.v, Pt.told]
  | loop n t ss told w => simp [h, Pt.v, Pt.told]
theorem sz_len {ps : List Pt} (hb : BookOk ps) {S : Str → List Sp} (hS : SeEq ps S) : ∀ n ∈ ps.map Pt.name, (S n).length ≤ 1000000 ∧ oks (S n) := by
  have go : ∀ i, i ≤ 6 → ∀ n ∈ (ps.take i).map Pt.name, (S n).length ≤ 6 ^ i ∧ oks (S n) := by
    intro i
    induction i with
    | zero => intro _ n h; simp at h
    | succ i ih =>
      intro hi n h
      have ih' := ih (by omega)
      cases hp : ps[i]? with
      | none =>
        rw [List.take_succ, hp] at h
        simp at h
        obtain ⟨h1, h2⟩ := ih' n (by simpa using h)
        exact ⟨Nat.le_trans h1 (Nat.pow_le_pow_right (by omega) (by omega)), h2⟩
      | some p =>
        rw [List.take_succ, hp, List.map_append] at h
        rcases List.mem_append.mp h with h | h
        · obtain ⟨h1, h2⟩ := ih' n h
          exact ⟨Nat.le_trans h1 (Nat.pow_le_pow_right (by omega) (by omega)), h2⟩
        · have e : n = p.name := by simpa using h
          subst e
          have F := (hb.ok i p hp).f
          rw [hS p (List.mem_of_getElem? hp)]
          have h1 : (expand S p.told).length ≤ p.told.length * 6 ^ i := expand_len (fun n hn => (ih' n (F.got n hn)).1) (Nat.pow_pos (by decide))
          have h2 : p.told.length * 6 ^ i ≤ 6 * 6 ^ i := Nat.mul_le_mul_right _ F.lent
          exact ⟨by rw [Nat.pow_succ]; omega, expand_oks F.okt fun n hn => (ih' n (F.got n hn)).2⟩
  intro n hn
  have hl := hb.len
  obtain ⟨h1, h2⟩ := go 6 (Nat.le_refl _) n (by rw [List.take_of_length_le hl]; exact hn)
  exact ⟨Nat.le_trans h1 (by decide), h2⟩
/-- one turn of the law's settling -/
theorem lawSettled_step {C : Nat → Fun1} {ps : List Pt} {S : Str → List Sp} {l : List Sp} {q : Nat} {st : Store} (hb : BookOk ps) (hS : SeEq ps S) (hq : st[q]? = some (ptT ps)) (hok : oks l) (hl : l.length ≤ 6)
    (hrec : ∀ p ∈ ps, p.name ∈ gos l → C 24 [.ref q, .tup (vsOf p.told)] st = .ok (.tup (vsOf (S p.name))) st) (hin : ∀ n ∈ gos l, n ∈ ps.map Pt.name) : runF (m24 C) 5 [.ref q, .tup (vsOf l)] st = .ok (.tup (vsOf (expand S l))) st := by
  have hsz := sz_len hb hS
  obtain ⟨ρ', s', e, o3, o4, rfl, hs'⟩ := for_rule (s := .vals (vsOf l)) (g := gSlot 3) (b := b24_0 C) (fun i ρ s => ∃ o3 o4, ρ = [some (.ref q), some (.tup (vsOf l)), some (.tup (vsOf (expand S (l.take i)))), o3, o4] ∧ s = st) (vsOf l) (fun _ _ _ _ => trivial) (by
    rintro i x ρ s hx ⟨o3, o4, rfl, rfl⟩
    obtain ⟨sp, hsp, rfl⟩ := vs_get hx
    have hm := List.mem_of_getElem? hsp
    have hlen : (expand S (l.take i)).length ≤ 6 * 1000000 := Nat.le_trans (expand_len (B := 1000000) (fun n hn => (hsz n (hin n (gos_take hn))).1) (by omega)) (Nat.mul_le_mul_right _ (by rw [List.length_take]; omega))
    rw [expand_take hsp, vsOf_app]
    generalize expand S (l.take i) = ex at hlen ⊢
    cases sp with
    | go n =>
      have hn : n ∈ gos l := gos_mem.mpr hm
      obtain ⟨p, hp, rfl⟩ := List.mem_map.mp (hin n hn)
      have hk := (hsz p.name (mem_name hp)).1
      have h1 : oIx (.ref q) (.str p.name) s = some (p.v, s) := by rw [oIx_str hq, dk_get (mem_name hp), pvOf_eq hb hp]; rfl
      have h2 := hrec p hp hn
      have h3 : (vsOf ex).length + (vsOf (S p.name)).length ≤ sizeLine := by rw [vs_len, vs_len, szl]; omega
      refine ⟨_, [some (.ref q), some (.tup (vsOf l)), some (.tup (vsOf ex ++ vsOf (S p.name))), some (Sp.go p.name).v, some p.v], s, rfl, .inl ?_, _, _, rfl, rfl⟩
      unfold b24_0
      refine if_t (st1 := s) (by simp [Sp.v]) ?_
      refine seq_go (ρ1 := [some (.ref q), some (.tup (vsOf l)), some (.tup (vsOf ex)), some (Sp.go p.name).v, some p.v]) (st1 := s) (by simp [Sp.v, h1]) ?_
      have h4 := told_expr p 4 [some (.ref q), some (.tup (vsOf l)), some (.tup (vsOf ex)), some (Sp.go p.name).v, some p.v] s rfl
      have h5 : eCall (C 24) (lCons (eVar 0) (lCons (eIf (tOf (eOp2 oEq (eOp2 oIx (eVar 4) (eC (.int 0))) (eC (.str "program")))) (eOp2 oIx (eVar 4) (eC (.int 2))) (eOp2 oIx (eVar 4) (eC (.int 4)))) lNil)) [some (.ref q), some (.tup (vsOf l)), some (.tup (vsOf ex)), some (Sp.go p.name).v, some p.v] s = .ok (.tup (vsOf (S p.name))) s := by
        show Res.bind (lCons (eVar 0) (lCons _ lNil) _ _) _ = _
        rw [lCons_k, show eVar 0 [some (.ref q), some (.tup (vsOf l)), some (.tup (vsOf ex)), some (Sp.go p.name).v, some p.v] s = .ok (.ref q) s from rfl, kCons_k, lCons_k, h4]
        exact h2
      exact set_go (op2_go (x := .tup (vsOf ex)) rfl h5 (oAdd_tup h3)) rfl
    | leaf a b =>
      have ha : ¬ (a = ("do" : Str)) := by have := (oks_iff l).mp hok _ hm; unfold Sp.Ok at this; exact this.1.1
      have h3 : (vsOf ex).length + 1 ≤ 16777216 := by rw [vs_len]; omega
      refine ⟨_, [some (.ref q), some (.tup (vsOf l)), some (.tup (vsOf ex ++ vsOf (xp S (.leaf a b)))), some (Sp.leaf a b).v, o4], s, rfl, .inl ?_, _, _, rfl, rfl⟩
      simp [b24_0, Sp.v, ha, oAdd_tup, h3, xp, vsOf]
    | br a b c d =>
      have ha : ¬ (a = ("do" : Str)) := by
        have := (oks_iff l).mp hok _ hm; unfold Sp.Ok at this
        rcases this.1 with rfl | rfl <;> simp
      have h3 : (vsOf ex).length + 1 ≤ 16777216 := by rw [vs_len]; omega
      refine ⟨_, [some (.ref q), some (.tup (vsOf l)), some (.tup (vsOf ex ++ vsOf (xp S (.br a b c d)))), some (Sp.br a b c d).v, o4], s, rfl, .inl ?_, _, _, rfl, rfl⟩
      simp [b24_0, Sp.v, ha, oAdd_tup, h3, xp, vsOf]) [some (.ref q), some (.tup (vsOf l)), some (.tup []), none, none] st ⟨none, none, by simp [expand, vsOf], rfl⟩
  subst hs'
  rw [vs_len, List.take_length] at e
  have hf : (Val.tup (vsOf (expand S l))).flat = true := by rw [flat_tup]; exact fineAll_flat _ (oks_fine _ (expand_oks hok fun n hn => (hsz n (hin n hn)).2))
  rw [← gcR_flat0 hf]
  have ht : tabOf (eVar 1) [some (.ref q), some (.tup (vsOf l)), some (.tup []), none, none] s' = none := tabOf_tup rfl
  simp [m24, sForA_seq ht, e]
theorem gos_name {ps : List Pt} (hb : BookOk ps) {p : Pt} (hp : p ∈ ps) : ∀ n ∈ gos p.all, n ∈ ps.map Pt.name := fun n hn => by
  obtain ⟨i, hi⟩ := List.mem_iff_getElem?.mp hp
  obtain ⟨q, hq, rfl⟩ := List.mem_map.mp ((hb.ok i p hi).f.go n hn)
  exact mem_name (List.mem_of_mem_take hq)
/-- by places, with how deep calls may go -/
theorem by_depth {ps : List Pt} (hb : BookOk ps) {P : Pt → Nat → Prop} (step : ∀ p ∈ ps, ∀ n, PtF (ps.map Pt.name) p → (∀ q ∈ ps, q.name ∈ gos p.all → P q n) → P p (n + 1)) : ∀ p ∈ ps, ∀ n, 6 ≤ n → P p n := by
  have go : ∀ i p, ps[i]? = some p → ∀ n, i + 1 ≤ n → P p n := by
    intro i
    induction i using Nat.strongRecOn with
    | _ i ih =>
      intro p hp n hn
      obtain ⟨n, rfl⟩ : ∃ k, n = k + 1 := ⟨n - 1, by omega⟩
      have hm := List.mem_of_getElem? hp
      have F := (hb.ok i p hp).f
      have g := gos_name hb hm
      refine step p hm n ⟨F.oks, F.okt, F.len, F.lent, F.cnt, F.dp, g, fun n hn => g n (got_all hn)⟩ fun q hq hqn => ?_
      obtain ⟨q', hq', he⟩ := List.mem_map.mp (F.go _ hqn)
      obtain ⟨j, hj⟩ := List.mem_iff_getElem?.mp hq'
      rw [List.getElem?_take] at hj
      split at hj
      · rename_i hlt
        have : q' = q := by
          have h1 := find_name hb (List.mem_of_mem_take hq')
          have h2 := find_name hb hq
          rw [he] at h1
          rw [h1] at h2
          exact Option.some.inj h2
        subst this
        exact ih j hlt q' hj n (by omega)
      · cases hj
  intro p hp n hn
  obtain ⟨i, hi⟩ := List.mem_iff_getElem?.mp hp
  have := (List.getElem?_eq_some_iff.mp hi).1
  exact go i p hi n (by have := hb.len; omega)
theorem lawSettled_ok {ps : List Pt} {S : Str → List Sp} {q : Nat} {st : Store} (hb : BookOk ps) (hS : SeEq ps S) (hq : st[q]? = some (ptT ps)) : ∀ p ∈ ps, ∀ n, 6 ≤ n → CC n 24 [.ref q, .tup (vsOf p.told)] st = .ok (.tup (vsOf (S p.name))) st :=
  by_depth hb fun p hp n F ih => by
    rw [cc24, hS p hp]
    exact lawSettled_step hb hS hq F.okt F.lent (fun r hr hn => ih r hr (got_all hn)) F.got
end W64
namespace W64
open PySem PySem.Spec L2 EV
theorem sizeE_sum (W : Str → Nat) (l : List Sp) : sizeE W l = cnts l + ((gos l).map W).sum := by
  unfold sizeE
  induction l with
  | nil => rfl
  | cons s l ih =>
    cases s with
    | go n =>
      have e1 : plain (Sp.go n :: l) = plain l := rfl
      have e2 : gos (Sp.go n :: l) = n :: gos l := rfl
      rw [e1, e2, List.map_cons, List.sum_cons, List.map_cons, List.sum_cons, cnts, Sp.cnt]
      omega
    | leaf a b =>
      have e1 : plain (Sp.leaf a b :: l) = Sp.leaf a b :: plain l := rfl
      have e2 : gos (Sp.leaf a b :: l) = gos l := rfl
      rw [e1, e2, cnts, cnts]; omega
    | br a b c d =>
      have e1 : plain (Sp.br a b c d :: l) = Sp.br a b c d :: plain l := rfl
      have e2 : gos (Sp.br a b c d :: l) = gos l := rfl
      rw [e1, e2, cnts, cnts]; omega
def wgt (W : Str → Nat) : Sp → Nat
  | .go n => 1 + W n
  | s => s.cnt
theorem sizeE_wgt (W : Str → Nat) (l : List Sp) : sizeE W l = (l.map (wgt W)).sum := by
  rw [sizeE_sum]
  induction l with
  | nil => simp [cnts, gos]
  | cons s l ih =>
    rw [List.map_cons, List.sum_cons, ← ih]
    cases s with
    | go n =>
      have e2 : gos (Sp.go n :: l) = n :: gos l := rfl
      rw [e2, List.map_cons, List.sum_cons, cnts, Sp.cnt]
      show _ = 1 + W n + _
      omega
    | leaf a b =>
      have e2 : gos (Sp.leaf a b :: l) = gos l := rfl
      rw [e2, cnts]
      show _ = (Sp.leaf a b).cnt + _
      omega
    | br a b c d =>
      have e2 : gos (Sp.br a b c d :: l) = gos l := rfl
      rw [e2, cnts]
      show _ = (Sp.br a b c d).cnt + _
      omega
theorem lawWeight_step {C : Nat → Fun1} {ps : List Pt} {W : Str → Nat} {l : List Sp} {q : Nat} {st : Store} (hb : BookOk ps) (hq : st[q]? = some (ptT ps)) (hok : oks l) (hcount : ∀ s ∈ l, C 18 [.tup [s.v]] st = .ok (.int s.cnt) st)
    (hrec : ∀ p ∈ ps, p.name ∈ gos l → C 27 [.ref q, .tup (vsOf p.told)] st = .ok (.int (W p.name)) st) (hin : ∀ n ∈ gos l, n ∈ ps.map Pt.name) : runF (m27 C) 5 [.ref q, .tup (vsOf l)] st = .ok (.int (sizeE W l : Nat)) st := by
  obtain ⟨ρ', s', e, o3, o4, rfl, hs'⟩ := for_rule (s := .vals (vsOf l)) (g := gSlot 3) (b := b27_0 C) (fun i ρ s => ∃ o3 o4, ρ = [some (.ref q), some (.tup (vsOf l)), some (.int (((l.take i).map (wgt W)).sum : Nat)), o3, o4] ∧ s = st) (vsOf l) (fun _ _ _ _ => trivial) (by
    rintro i x ρ s hx ⟨o3, o4, rfl, rfl⟩
    obtain ⟨sp, hsp, rfl⟩ := vs_get hx
    have hm := List.mem_of_getElem? hsp
    have hc := hcount sp hm
    have hsum : ((l.take (i + 1)).map (wgt W)).sum = ((l.take i).map (wgt W)).sum + wgt W sp := by
      rw [List.take_succ, hsp]; simp
    rw [hsum]
    generalize ((l.take i).map (wgt W)).sum = k
    cases sp with
    | go n =>
      have hn : n ∈ gos l := gos_mem.mpr hm
      obtain ⟨p, hp, rfl⟩ := List.mem_map.mp (hin n hn)
      have h1 : oIx (.ref q) (.str p.name) s = some (p.v, s) := by rw [oIx_str hq, dk_get (mem_name hp), pvOf_eq hb hp]; rfl
      have h2 := hrec p hp hn
      refine ⟨_, [some (.ref q), some (.tup (vsOf l)), some (.int ((k + wgt W (.go p.name) : Nat) : Int)), some (Sp.go p.name).v, some p.v], s, rfl, .inl ?_, _, _, rfl, rfl⟩
      unfold b27_0
      refine seq_go (ρ1 := [some (.ref q), some (.tup (vsOf l)), some (.int ((k : Int) + 1)), some (Sp.go p.name).v, o4]) (st1 := s) ?_ ?_
      · rw [Sp.cnt] at hc
        simp [hc]
      refine if_t (st1 := s) (by simp [Sp.v]) ?_
      refine seq_go (ρ1 := [some (.ref q), some (.tup (vsOf l)), some (.int ((k : Int) + 1)), some (Sp.go p.name).v, some p.v]) (st1 := s) (by simp [Sp.v, h1]) ?_
      have h4 := told_expr p 4 [some (.ref q), some (.tup (vsOf l)), some (.int ((k : Int) + 1)), some (Sp.go p.name).v, some p.v] s rfl
      have h5 : eCall (C 27) (lCons (eVar 0) (lCons (eIf (tOf (eOp2 oEq (eOp2 oIx (eVar 4) (eC (.int 0))) (eC (.str "program")))) (eOp2 oIx (eVar 4) (eC (.int 2))) (eOp2 oIx (eVar 4) (eC (.int 4)))) lNil)) [some (.ref q), some (.tup (vsOf l)), some (.int ((k : Int) + 1)), some (Sp.go p.name).v, some p.v] s = .ok (.int (W p.name)) s := by
        show Res.bind (lCons (eVar 0) (lCons _ lNil) _ _) _ = _
        rw [lCons_k, show eVar 0 [some (.ref q), some (.tup (vsOf l)), some (.int ((k : Int) + 1)), some (Sp.go p.name).v, some p.v] s = .ok (.ref q) s from rfl, kCons_k, lCons_k, h4]
        exact h2
      refine set_go (op2_go (x := .int ((k : Int) + 1)) rfl h5 oAdd_int) ?_
      have : ((k + wgt W (.go p.name) : Nat) : Int) = (k : Int) + 1 + (W p.name : Int) := by show ((k + (1 + W p.name) : Nat) : Int) = _; omega
      rw [this]; rfl
    | leaf a b =>
      have ha : ¬ (a = ("do" : Str)) := by have := (oks_iff l).mp hok _ hm; unfold Sp.Ok at this; exact this.1.1
      refine ⟨_, [some (.ref q), some (.tup (vsOf l)), some (.int ((k + wgt W (.leaf a b) : Nat) : Int)), some (Sp.leaf a b).v, o4], s, rfl, .inl ?_, _, _, rfl, rfl⟩
      rw [Sp.v] at hc ⊢
      simp [b27_0, hc, ha, wgt]
    | br a b c d =>
      have ha : ¬ (a = ("do" : Str)) := by
        have := (oks_iff l).mp hok _ hm; unfold Sp.Ok at this
        rcases this.1 with rfl | rfl <;> simp
      refine ⟨_, [some (.ref q), some (.tup (vsOf l)), some (.int ((k + wgt W (.br a b c d) : Nat) : Int)), some (Sp.br a b c d).v, o4], s, rfl, .inl ?_, _, _, rfl, rfl⟩
      rw [Sp.v] at hc ⊢
      simp [b27_0, hc, ha, wgt]) [some (.ref q), some (.tup (vsOf l)), some (.int 0), none, none] st ⟨none, none, by simp, rfl⟩
  subst hs'
  rw [vs_len, List.take_length, ← sizeE_wgt] at e
  rw [← gcR_flat0 (x := .int (sizeE W l : Nat)) (by simp)]
  have ht : tabOf (eVar 1) [some (.ref q), some (.tup (vsOf l)), some (.int 0), none, none] s' = none := tabOf_tup rfl
  simp [m27, sForA_seq ht, e]
theorem lawWeight_ok {ps : List Pt} {W : Str → Nat} {q : Nat} {st : Store} (hb : BookOk ps) (hW : SzEq ps W) (hq : st[q]? = some (ptT ps)) : ∀ p ∈ ps, ∀ n, 9 ≤ n → CC n 27 [.ref q, .tup (vsOf p.told)] st = .ok (.int (W p.name)) st := by
  have go : ∀ p ∈ ps, ∀ n, 6 ≤ n → CC (n + 3) 27 [.ref q, .tup (vsOf p.told)] st = .ok (.int (W p.name)) st :=
    by_depth hb fun p hp n F ih => by
      rw [cc27, hW p hp]
      refine lawWeight_step hb hq F.okt (fun s hs => ?_) (fun r hr hn => ih r hr (got_all hn)) F.got
      have h1 := count_ok 1 (n + 3) (by omega) [s] st (by rw [oks]; exact ⟨(oks_iff _).mp F.okt s hs, by rw [oks]; trivial⟩) (by rw [dps, dps]; have := F.dp s (told_sub hs); simp; exact this)
      rw [vsOf, vsOf, cnts, cnts] at h1
      exact h1
  intro p hp n hn
  obtain ⟨k, rfl⟩ : ∃ k, n = k + 3 := ⟨n - 3, by omega⟩
  exact go p hp k (by omega)
theorem isSmall_ok {C : Nat → Fun1} {ps : List Pt} {W : Str → Nat} {q : Nat} {p : Pt} {st : Store} (h : C 27 [.ref q, .tup (vsOf p.told)] st = .ok (.int (W p.name)) st) : runF (m28 C) 2 [.ref q, p.v] st = .ok (.bl (decide ((W p.name : Int) < 41))) st := by
  rw [← gcR_flat0 (x := .bl (decide ((W p.name : Int) < 41))) (by simp)]
  have h4 := told_expr p 1 [some (.ref q), some p.v] st rfl
  have h5 : eCall (C 27) (lCons (eVar 0) (lCons (eIf (tOf (eOp2 oEq (eOp2 oIx (eVar 1) (eC (.int 0))) (eC (.str "program")))) (eOp2 oIx (eVar 1) (eC (.int 2))) (eOp2 oIx (eVar 1) (eC (.int 4)))) lNil)) [some (.ref q), some p.v] st = .ok (.int (W p.name)) st := by
    show Res.bind (lCons (eVar 0) (lCons _ lNil) _ _) _ = _
    rw [lCons_k, show eVar 0 [some (.ref q), some p.v] st = .ok (.ref q) st from rfl, kCons_k, lCons_k, h4]
    exact h
  have h6 := op2_go (f := oLt) (b := eC (.int 41)) h5 rfl oLt_int
  show gcR st (bodyR (m28 C [some (.ref q), some p.v] st)) = _
  have E : m28 C [some (.ref q), some p.v] st = .rt (.bl (decide ((W p.name : Int) < 41))) st := by
    unfold m28
    show (eOp2 oLt _ _ _ _).thenS _ _ = _
    rw [h6]; rfl
  rw [E]; rfl
/-! ### what a part does, at last -/
def LawDone (f : Fun1) : Prop := ∀ (p : Pt) (st : Store), oks p.all → p.all.length ≤ 6 → f [p.v] st = .ok (.ref st.length) (st ++ [.lst ((gos p.all).map Val.str)])
theorem lawDone_ok (C : Nat → Fun1) : LawDone (runF (m25 C) 3) := by
  intro p st hok hl
  have hc := comp_sp (g := gSlot 2) (t := t25_0 C) (e := e25_0 C) (ρ := [some p.v, some (.tup (vsOf p.all)), none]) (st := st) (fun s => s.goN.map Val.str) p.all (fun s hs => by
    obtain ⟨op, r, h1, h2, h3⟩ := isdo ((oks_iff _).mp hok s hs)
    refine ⟨[some p.v, some (.tup (vsOf p.all)), some s.v], by simp, ?_⟩
    cases s with
    | go n =>
      left
      have := h3 n rfl
      subst this
      refine ⟨.str n, ?_, ?_, rfl⟩
      · simp [t25_0, Sp.v]
      · simp [e25_0, Sp.v]
    | leaf a b => right; refine ⟨?_, rfl⟩; rw [h1]; simp [t25_0]; simpa [Sp.isGo] using h2
    | br a b c d => right; refine ⟨?_, rfl⟩; rw [h1]; simp [t25_0]; simpa [Sp.isGo] using h2)
  rw [gos_vals] at hc
  have hz : (gos p.all).length ≤ 16777216 := by have := gos_len p.all; omega
  have hf : flatAll ((gos p.all).map Val.str) = true := flat_strs _
  rw [← gcR_lst0 (t := []) hf]
  have ha : eIf (tOf (eOp2 oEq (eOp2 oIx (eVar 0) (eC (.int 0))) (eC (.str "program")))) (eOp2 oIx (eVar 0) (eC (.int 2))) (eOp2 oAdd (eOp2 oIx (eVar 0) (eC (.int 3))) (eOp2 oIx (eVar 0) (eC (.int 4)))) [some p.v, none, none] st = .ok (.tup (vsOf p.all)) st := by
    cases p with
    | prog n ss => simp [Pt.v, Pt.all]
    | loop n t ss told w =>
      have h' : ss.length + told.length ≤ 16777216 := by
        have : (ss ++ told).length ≤ 6 := hl
        rw [List.length_append] at this
        omega
      simp [Pt.v, Pt.all, oAdd_tup, vs_len, h', vsOf_app]
  have E : m25 C (startS 3 [p.v]) st = .rt (.ref st.length) (st ++ [.lst ((gos p.all).map Val.str)]) := by
    unfold m25
    refine seq_go (ρ1 := [some p.v, some (.tup (vsOf p.all)), none]) (st1 := st) (set_go ha rfl) ?_
    simp [hc, jComp_ok, hz]
  show gcR st (bodyR (m25 C (startS 3 [p.v]) st)) = _
  rw [E]
  rfl
theorem oNotIn_strs {a : Str} {xs : List Str} {st : Store} {r : Nat} (h : st[r]? = some (.lst (xs.map Val.str))) : oNotIn (.str a) (.ref r) st = some (.bl (!decide (a ∈ xs)), st) := by
  have h1 := oIn_strs (a := a) (xs := xs) (st := st)
  unfold oIn at h1
  unfold oNotIn
  rw [show isIn st (.str a) (.ref r) = isIn st (.str a) (.tup (xs.map Val.str)) from by unfold isIn; simp only [h]]
  cases e : isIn st (.str a) (.tup (xs.map Val.str)) with
  | none => rw [e] at h1; cases h1
  | some k => rw [e] at h1; simp at h1; subst h1; rfl
theorem oIn_strsR {a : Str} {xs : List Str} {st : Store} {r : Nat} (h : st[r]? = some (.lst (xs.map Val.str))) : oIn (.str a) (.ref r) st = some (.bl (decide (a ∈ xs)), st) := by
  have h1 := oIn_strs (a := a) (xs := xs) (st := st)
  unfold oIn at h1 ⊢
  rw [show isIn st (.str a) (.ref r) = isIn st (.str a) (.tup (xs.map Val.str)) from by unfold isIn; simp only [h]]
  exact h1
theorem mem_addU {l : List Str} {x y : Str} : y ∈ addU l x ↔ y ∈ l ∨ y = x := by
  unfold addU
  split
  · rename_i h
    constructor
    · exact .inl
    · rintro (q | rfl)
      · exact q
      · exact h
  · simp
theorem mem_addUs {xs : List Str} : ∀ {l : List Str} {y : Str}, y ∈ xs.foldl addU l ↔ y ∈ l ∨ y ∈ xs := by
  induction xs with
  | nil => intro l y; simp
  | cons x xs ih => intro l y; rw [List.foldl_cons, ih, mem_addU, List.mem_cons, or_assoc]
theorem mem_uFs {U : Str → List Str} {ms : List Str} : ∀ {l : List Str} {y : Str}, y ∈ ms.foldl (fun acc m => (U m).foldl addU (addU acc m)) l ↔ y ∈ l ∨ ∃ m ∈ ms, y = m ∨ y ∈ U m := by
  induction ms with
  | nil => intro l y; simp
  | cons m ms ih =>
    intro l y
    rw [List.foldl_cons, ih, mem_addUs, mem_addU]
    constructor
    · rintro ((⟨h | h⟩ | h) | ⟨k, h1, h2⟩)
      · exact .inl h
      · exact .inr ⟨m, by simp, .inl h⟩
      · exact .inr ⟨m, by simp, .inr h⟩
      · exact .inr ⟨k, by simp [h1], h2⟩
    · rintro (h | ⟨k, h1, h2⟩)
      · exact .inl (.inl (.inl h))
      · rcases List.mem_cons.mp h1 with rfl | h1
        · rcases h2 with h2 | h2
          · exact .inl (.inl (.inr h2))
          · exact .inl (.inr h2)
        · exact .inr ⟨k, h1, h2⟩
theorem mem_uF {U : Str → List Str} {ms : List Str} {y : Str} : y ∈ uF U ms ↔ ∃ m ∈ ms, y = m ∨ y ∈ U m := by
  unfold uF
  rw [mem_uFs]
  simp
end W64
namespace W64
open PySem PySem.Spec L2 EV
theorem u_trans {ps : List Pt} (hb : BookOk ps) {U : Str → List Str} (hU : UEq ps U) : ∀ n ∈ ps.map Pt.name, ∀ y ∈ U n, ∀ z ∈ U y, z ∈ U n :=
  by_place hb fun p hp F ih => by
    intro y hy z hz
    rw [hU p hp, mem_uF] at hy ⊢
    obtain ⟨m, hm, h⟩ := hy
    rcases h with rfl | h
    · exact ⟨y, hm, .inr hz⟩
    · exact ⟨m, hm, .inr (ih m hm y h z hz)⟩
/-- one part's doings are taken up -/
theorem take_up {C : Nat → Fun1} {st s0 : Store} {a b r0 : Nat} {F Q ms : List Str} {x0 x1 x4 : Option Val} (hfr : FR st s0) (ha : s0[a]? = some (.lst (F.map Val.str))) (hb : s0[b]? = some (.lst (Q.map Val.str))) (h0 : s0[r0]? = some (.lst (ms.map Val.str)))
    (la : st.length ≤ a) (lb : st.length ≤ b) (nab : a ≠ b) (n1 : r0 ≠ a) (n2 : r0 ≠ b) (hF : F.Nodup) (hl : F.length + Q.length + ms.length ≤ 1000) :
    ∃ (o4 : Option Val) (F' Q' : List Str) (s : Store), forL (.cell r0 (ms.map Val.str)) (gSlot 4) (b26_0 C) (ms.map Val.str) [x0, x1, some (.ref a), some (.ref b), x4] s0 = .nx [x0, x1, some (.ref a), some (.ref b), o4] s ∧ FR st s ∧ s[a]? = some (.lst (F'.map Val.str)) ∧ s[b]? = some (.lst (Q'.map Val.str)) ∧
      F'.Nodup ∧ (∀ y, y ∈ F' ↔ y ∈ F ∨ y ∈ ms) ∧ (∀ y, y ∈ Q' ↔ y ∈ Q ∨ (y ∈ F' ∧ y ∉ F)) ∧ Q'.length + F.length = Q.length + F'.length := by
  obtain ⟨ρ', s', e, o4, F', Q', rfl, g1, g2, g3, g4, g5, g6, g7, g8, g9⟩ := for_rule (s := .cell r0 (ms.map Val.str)) (g := gSlot 4) (b := b26_0 C) (fun i ρ s => ∃ (o4 : Option Val) (F' Q' : List Str), ρ = [x0, x1, some (.ref a), some (.ref b), o4] ∧ FR st s ∧ s[a]? = some (.lst (F'.map Val.str)) ∧ s[b]? = some (.lst (Q'.map Val.str)) ∧ s[r0]? = some (.lst (ms.map Val.str)) ∧
      F'.Nodup ∧ (∀ y, y ∈ F' ↔ y ∈ F ∨ y ∈ ms.take i) ∧ (∀ y, y ∈ Q' ↔ y ∈ Q ∨ (y ∈ F' ∧ y ∉ F)) ∧ Q'.length + F.length = Q.length + F'.length ∧ F'.length ≤ F.length + i) (ms.map Val.str) (fun i ρ s ⟨_, _, _, _, _, _, _, h, _⟩ => .inl h) (by
    rintro i x ρ s hx ⟨o4, F', Q', rfl, g1, g2, g3, g4, g5, g6, g7, g8, g9⟩
    rw [List.getElem?_map, Option.map_eq_some_iff] at hx
    obtain ⟨m, hm, rfl⟩ := hx
    have hil := (List.getElem?_eq_some_iff.mp hm).1
    have htk : ms.take (i + 1) = ms.take i ++ [m] := by rw [List.take_succ, hm]; rfl
    by_cases hin : m ∈ F'
    · refine ⟨_, _, s, rfl, .inl ?_, some (.str m), F', Q', rfl, g1, g2, g3, g4, g5, fun y => ?_, g7, g8, by omega⟩
      · simp [b26_0, oNotIn_strs g2, hin]
      · rw [g6, htk, List.mem_append, List.mem_singleton]
        constructor
        · rintro (h | h); exact .inl h; exact .inr (.inl h)
        · rintro (h | h | rfl)
          · exact .inl h
          · exact .inr h
          · exact (g6 y).mp hin
    · have z1 : F'.length < 16777216 := by omega
      have z2 : Q'.length < 16777216 := by omega
      have g3' : (s.set a (.lst ((F' ++ [m]).map Val.str)))[b]? = some (.lst (Q'.map Val.str)) := set_old g3 nab.symm
      refine ⟨_, _, (s.set a (.lst ((F' ++ [m]).map Val.str))).set b (.lst ((Q' ++ [m]).map Val.str)), rfl, .inl ?_, some (.str m), F' ++ [m], Q' ++ [m], rfl, (g1.set la).set lb, set_old (set_at (lt_of_at g2)) nab, set_at (by rw [List.length_set]; exact lt_of_at g3), set_old (set_old g4 n1) n2, ?_, fun y => ?_, fun y => ?_, ?_, ?_⟩
      · simp at g3'
        simp [b26_0, oNotIn_strs g2, hin, g2, mAppend_ref, kAppR_l, z1, g3', z2]
      · exact List.nodup_append.mpr ⟨g5, by simp, fun x hx y hy e => by rw [List.mem_singleton.mp hy] at e; subst e; exact hin hx⟩
      · rw [htk, List.mem_append, List.mem_append, List.mem_singleton, g6, or_assoc]
      · have hmF : m ∉ F := fun h => hin ((g6 m).mpr (.inl h))
        rw [List.mem_append, List.mem_singleton, g7, List.mem_append, List.mem_singleton]
        constructor
        · rintro ((h | ⟨h1, h2⟩) | rfl)
          · exact .inl h
          · exact .inr ⟨.inl h1, h2⟩
          · exact .inr ⟨.inr rfl, hmF⟩
        · rintro (h | ⟨h1 | rfl, h2⟩)
          · exact .inl (.inl h)
          · exact .inl (.inr ⟨h1, h2⟩)
          · exact .inr rfl
      · rw [List.length_append, List.length_append]; simp; omega
      · rw [List.length_append]; simp; omega) [x0, x1, some (.ref a), some (.ref b), x4] s0 ⟨x4, F, Q, rfl, hfr, ha, hb, h0, hF, fun y => by simp, fun y => by
        constructor
        · exact .inl
        · rintro (h | ⟨h1, h2⟩)
          · exact h
          · exact absurd h1 h2, rfl, by omega⟩
  rw [List.length_map, List.take_length] at g6
  exact ⟨o4, F', Q', s', e, g1, g2, g3, g5, g6, g7, g8⟩
def AllDone (f : Fun1) : Prop := ∀ (ps : List Pt) (p : Pt) (q : Nat) (U : Str → List Str) (st : Store), BookOk ps → UEq ps U → p ∈ ps → st[q]? = some (ptT ps) → ∃ fs : List Str, f [.ref q, .str p.name] st = .ok (.ref st.length) (st ++ [.lst (fs.map Val.str)]) ∧ ∀ n, n ∈ fs ↔ n ∈ U p.name
theorem allDone_ok {C : Nat → Fun1} (hD : LawDone (C 25)) : AllDone (runF (m26 C) 5) := by
  intro ps p q U st hb hU hp hq
  have hu := u_ok hb hU
  have hpn := mem_name hp
  have hql := lt_of_at hq
  have hw := while_rule (t := t26_1 C) (b := b26_1 C) (P := fun ρ s => ∃ fs : List Str, ρ[2]? = some (some (.ref st.length)) ∧ FR st s ∧ s[st.length]? = some (.lst (fs.map Val.str)) ∧ ∀ n, n ∈ fs ↔ n ∈ U p.name)
    (fun n ρ s => ∃ (o4 : Option Val) (F Q : List Str), ρ = [some (.ref q), some (.str p.name), some (.ref st.length), some (.ref (st.length + 1)), o4] ∧ FR st s ∧ s[st.length]? = some (.lst (F.map Val.str)) ∧ s[st.length + 1]? = some (.lst (Q.map Val.str)) ∧ F.Nodup ∧ (∀ y ∈ F, y ∈ U p.name) ∧ (∀ y ∈ Q, y = p.name ∨ y ∈ F) ∧
      (∀ x ∈ ps, (x.name = p.name ∨ x.name ∈ F) → x.name ∉ Q → ∀ m ∈ gos x.all, m ∈ F) ∧ n = Q.length + 2 * (6 - F.length) ∧ Q.length ≤ F.length + 1) (by
    rintro n ρ s ⟨o4, F, Q, rfl, hs, g1, g2, g3, g4, g5, g6, rfl, g7⟩
    have hF6 : F.length ≤ 6 := u_len hb g3 fun y hy => (hu p.name hpn).2 y (g4 y hy)
    rcases List.eq_nil_or_concat Q with rfl | ⟨Q0, x, rfl⟩
    · left
      refine ⟨s ++ [.lst []], by simp at g2; simp [t26_1, oNe_nil (app_old g2)], F, rfl, hs.app _, app_old g1, fun n => ⟨g4 n, fun hn => ?_⟩⟩
      have closed : ∀ n ∈ ps.map Pt.name, (n = p.name ∨ n ∈ F) → ∀ y ∈ U n, y ∈ F := by_place hb fun r hr Fr ih => by
        intro hrn y hy
        rw [hU r hr, mem_uF] at hy
        obtain ⟨m, hm, h⟩ := hy
        have hmF := g6 r hr hrn (by simp) m hm
        rcases h with rfl | h
        · exact hmF
        · exact ih m hm (.inr hmF) y h
      exact closed p.name hpn (.inl rfl) n hn
    · right
      rw [List.concat_eq_append] at g2 g5 g6 g7
      let s1 : Store := s ++ [.lst []]
      have k1 : s1[st.length]? = some (.lst (F.map Val.str)) := app_old g1
      have k2 : s1[st.length + 1]? = some (.lst (Q0.map Val.str ++ [.str x])) := by rw [app_old g2]; simp
      have hxn : x ∈ ps.map Pt.name := by
        rcases g5 x (by simp) with rfl | h
        · exact hpn
        · exact (hu p.name hpn).2 x (g4 x h)
      obtain ⟨px, hpx, rfl⟩ := List.mem_map.mp hxn
      obtain ⟨ii, hii⟩ := List.mem_iff_getElem?.mp hpx
      have Fx := (hb.ok ii px hii).f
      let s2 : Store := s1.set (st.length + 1) (.lst (Q0.map Val.str))
      have hs2 : FR st s2 := (hs.app _).set (by omega)
      have c1 : s2[st.length]? = some (.lst (F.map Val.str)) := set_old k1 (by omega)
      have c2 : s2[st.length + 1]? = some (.lst (Q0.map Val.str)) := set_at (lt_of_at k2)
      have cq : s2[q]? = some (ptT ps) := hs2.at_ hq
      have hd := hD px s2 Fx.oks Fx.len
      let s3 : Store := s2 ++ [.lst ((gos px.all).map Val.str)]
      have l2 := lt_of_at c2
      have hgl := gos_len px.all
      have hxl := Fx.len
      rw [List.length_append] at g7
      simp at g7
      obtain ⟨o4', F', Q', s', e, f1, f2, f3, f4, f5, f6, f7⟩ := take_up (C := C) (st := st) (s0 := s3) (a := st.length) (b := st.length + 1) (r0 := s2.length) (F := F) (Q := Q0) (ms := gos px.all) (x0 := some (.ref q)) (x1 := some (.str p.name)) (x4 := o4) (hs2.app _) (app_old c1) (app_old c2) (by rw [app_at0]; rfl) (Nat.le_refl _) (by omega) (by omega) (by omega) (by omega) g3 (by omega)
      have hixp : oIx (.ref q) (.str px.name) s2 = some (px.v, s2) := by rw [oIx_str cq, dk_get (mem_name hpx), pvOf_eq hb hpx]; rfl
      have hcall : eCall (C 25) (lCons (eOp2 oIx (eVar 0) (eMeth mPop (eVar 3) lNil)) lNil) [some (.ref q), some (.str p.name), some (.ref st.length), some (.ref (st.length + 1)), o4] s1 = .ok (.ref s2.length) s3 := by
        simp [k2, mPop_last k2]
        rw [show List.set s1 (st.length + 1) (.lst (Q0.map Val.str)) = s2 from rfl, hixp]
        simp
        exact hd
      have ht : tabOf (eCall (C 25) (lCons (eOp2 oIx (eVar 0) (eMeth mPop (eVar 3) lNil)) lNil)) [some (.ref q), some (.str p.name), some (.ref st.length), some (.ref (st.length + 1)), o4] s1 = none := by
        unfold tabOf
        rw [hcall]
        have : s1[s2.length]? = none := by rw [List.getElem?_eq_none_iff, List.length_set]; exact Nat.le_refl _
        simp only [this]
      have hsub : ∀ y ∈ F', y ∈ U p.name := fun y hy => by
        rcases (f5 y).mp hy with h | h
        · exact g4 y h
        · have hyx : y ∈ U px.name := by rw [hU px hpx, mem_uF]; exact ⟨y, h, .inl rfl⟩
          rcases g5 px.name (by simp) with h1 | h1
          · rw [← h1]; exact hyx
          · exact u_trans hb hU p.name hpn px.name (g4 _ h1) y hyx
      have hF6' : F'.length ≤ 6 := u_len hb f4 fun y hy => (hu p.name hpn).2 y (hsub y hy)
      have hFF : F.length ≤ F'.length := nodup_le g3 fun y hy => (f5 y).mpr (.inl hy)
      refine ⟨s1, _, s', Q'.length + 2 * (6 - F'.length), by simp at g2; simp [t26_1, s1, oNe_nil k2], ?_, by rw [List.concat_eq_append, List.length_append]; simp; omega, o4', F', Q', rfl, f1, f2, f3, f4, hsub, fun y hy => ?_, fun z hz hzn hzq m hm => ?_, rfl, by omega⟩
      · unfold b26_1
        rw [sForA_seq ht]
        show (((eCall (C 25) _ _ _).bind _).thenS _ _) = _
        rw [hcall]
        have h3 : s3[s2.length]? = some (.lst ((gos px.all).map Val.str)) := by rw [app_at0]; rfl
        simp only [Res.bind_ok, h3, Res.thenS_ok]
        exact e
      · rcases (f6 y).mp hy with h | h
        · rcases g5 y (by simp [h]) with h | h
          · exact .inl h
          · exact .inr ((f5 y).mpr (.inl h))
        · exact .inr h.1
      · by_cases hzx : z.name = px.name
        · have : z = px := by
            have h1 := find_name hb hz
            have h2 := find_name hb hpx
            rw [hzx] at h1
            rw [h1] at h2
            exact Option.some.inj h2
          subst this
          exact (f5 m).mpr (.inr hm)
        · have hzF : z.name = p.name ∨ z.name ∈ F := by
            rcases hzn with h | h
            · exact .inl h
            · by_cases hh : z.name ∈ F
              · exact .inr hh
              · exact absurd ((f6 _).mpr (.inr ⟨h, hh⟩)) hzq
          have hzQ : z.name ∉ Q0 ++ [px.name] := fun h => by
            rcases List.mem_append.mp h with h | h
            · exact hzq ((f6 _).mpr (.inl h))
            · exact hzx (List.mem_singleton.mp h)
          exact (f5 m).mpr (.inl (g6 z hz hzF hzQ m hm)))
  obtain ⟨ρ', s', e, fs, h1, h2, h3, h4⟩ := hw _ [some (.ref q), some (.str p.name), some (.ref st.length), some (.ref (st.length + 1)), none] (st ++ [.lst [], .lst [.str p.name]]) ⟨none, [], [p.name], rfl, FR.app0 _ _, by rw [app_at0]; rfl, by rw [app_at]; rfl, List.nodup_nil, by simp, by simp, (fun x hx hxn hxq => by
    rcases hxn with h | h
    · exact absurd h (by simpa using hxq)
    · cases h), rfl, by simp⟩
  refine ⟨fs, ?_, h4⟩
  rw [← gcR_FL h2 (Nat.le_refl _) h3 (flat_strs _)]
  simp [m26]
  rw [e]
  simp [h1]
end W64
namespace W64
open PySem PySem.Spec L2 EV
/-! ### the plain functions are there -/
def fx {α : Type} (ps : List Pt) (d : α) (F : Pt → (Str → α) → α) : Nat → Str → α
  | 0, _ => d
  | k + 1, n => match ps.find? fun p => decide (p.name = n) with
    | some p => F p (fx ps d F k)
    | none => d
theorem fx_ex {α : Type} {ps : List Pt} (hb : BookOk ps) (d : α) (F : Pt → (Str → α) → α) (hF : ∀ p f g, (∀ m ∈ gos p.all, f m = g m) → F p f = F p g) : ∃ f : Str → α, ∀ p ∈ ps, f p.name = F p f := by
  have st : ∀ p ∈ ps, ∀ k, fx ps d F (k + 1) p.name = F p (fx ps d F k) := fun p hp k => by rw [fx, find_name hb hp]
  have go : ∀ p ∈ ps, ∀ n, 6 ≤ n → ∀ k, n ≤ k → fx ps d F k p.name = fx ps d F n p.name :=
    by_depth hb fun p hp n Fp ih k hk => by
      obtain ⟨k, rfl⟩ : ∃ j, k = j + 1 := ⟨k - 1, by omega⟩
      rw [st p hp, st p hp]
      refine hF p _ _ fun m hm => ?_
      obtain ⟨q, hq, rfl⟩ := List.mem_map.mp (Fp.go m hm)
      exact ih q hq hm k (by omega)
  refine ⟨fx ps d F 7, fun p hp => ?_⟩
  rw [st p hp 6]
  refine hF p _ _ fun m hm => ?_
  obtain ⟨q, hq, rfl⟩ := List.mem_map.mp (gos_name hb hp m hm)
  exact (go q hq 6 (Nat.le_refl _) 7 (by omega)).symm
theorem w_ex {ps : List Pt} (hb : BookOk ps) : ∃ W, SzEq ps W := fx_ex hb 0 (fun p W => sizeE W p.told) fun p f g h => by
  unfold sizeE
  rw [List.map_congr_left fun n hn => by rw [h n (got_all hn)]]
theorem s_ex {ps : List Pt} (hb : BookOk ps) : ∃ S, SeEq ps S := fx_ex hb [] (fun p S => expand S p.told) fun p f g h => expand_congr fun n hn => h n (got_all hn)
theorem uF_congr {U V : Str → List Str} : ∀ (ms l : List Str), (∀ m ∈ ms, U m = V m) → ms.foldl (fun acc m => (U m).foldl addU (addU acc m)) l = ms.foldl (fun acc m => (V m).foldl addU (addU acc m)) l
  | [], _, _ => rfl
  | m :: ms, l, h => by
    rw [List.foldl_cons, List.foldl_cons, h m (List.mem_cons_self ..)]
    exact uF_congr ms _ fun k hk => h k (List.mem_cons_of_mem _ hk)
theorem u_ex {ps : List Pt} (hb : BookOk ps) : ∃ U, UEq ps U := fx_ex hb [] (fun p U => uF U (gos p.all)) fun p f g h => uF_congr _ _ h
/-! ### shorter books -/
theorem book_take {ps : List Pt} (hb : BookOk ps) (k : Nat) : BookOk (ps.take k) := by
  refine ⟨by rw [List.map_take]; exact (List.take_sublist _ _).nodup hb.nd, by rw [List.length_take]; have := hb.len; omega, fun i p hp => ?_⟩
  rw [List.getElem?_take] at hp
  split at hp
  · rename_i hlt
    rw [List.take_take, Nat.min_eq_left (Nat.le_of_lt hlt)]
    exact hb.ok i p hp
  · cases hp
theorem row_take {ps : List Pt} (hb : BookOk ps) {k : Nat} {l : List Str} (h : ∀ y ∈ l, y ∈ (ps.take k).map Pt.name) : rowOf (ps.take k) l = rowOf ps l := by
  unfold rowOf
  congr 1
  have e : ps.map Pt.name = (ps.take k).map Pt.name ++ (ps.drop k).map Pt.name := by rw [← List.map_append, List.take_append_drop]
  have hnd := hb.nd
  rw [e] at hnd ⊢
  rw [List.filter_append]
  have : ((ps.drop k).map Pt.name).filter (fun n => decide (n ∈ l)) = [] := by
    rw [List.filter_eq_nil_iff]
    intro n hn
    simp only [decide_eq_true_eq]
    intro hl
    exact (List.nodup_append.mp hnd).2.2 n (h n hl) n hn rfl
  rw [this, List.append_nil]
theorem u_take {ps : List Pt} (hb : BookOk ps) {U : Str → List Str} (hU : UEq ps U) {i : Nat} {p : Pt} (hp : ps[i]? = some p) : ∀ y ∈ U p.name, y ∈ (ps.take (i + 1)).map Pt.name := by
  have hb' := book_take hb (i + 1)
  have hU' : UEq (ps.take (i + 1)) U := fun q hq => hU q (List.mem_of_mem_take hq)
  have hm : p ∈ ps.take (i + 1) := by rw [List.take_succ, hp]; simp
  exact (u_ok hb' hU' p.name (mem_name hm)).2
/-- what small parts settle to is short -/
theorem s_good {ps : List Pt} (hb : BookOk ps) {S : Str → List Sp} (hS : SeEq ps S) : ∀ n ∈ ps.map Pt.name, ∀ s ∈ S n, s.dp ≤ 1 ∧ s.v.tl ≤ 100000 ∧ s.v.dep ≤ 9 :=
  by_place hb fun p hp F ih => by
    intro s hs
    rw [hS p hp] at hs
    obtain ⟨i, hi⟩ := List.mem_iff_getElem?.mp hp
    have sp := (hb.ok i p hi).sp
    obtain ⟨x, hx, hs⟩ := List.mem_flatMap.mp hs
    have hg := sp x (told_sub hx)
    cases x with
    | go n => exact ih n (got_all (gos_mem.mpr hx)) s hs
    | leaf a b => rw [List.mem_singleton.mp hs]; exact ⟨hg.2.1, hg.2.2.1, hg.2.2.2.1⟩
    | br a b c d => rw [List.mem_singleton.mp hs]; exact ⟨hg.2.1, hg.2.2.1, hg.2.2.2.1⟩
theorem dps_le {l : List Sp} (h : ∀ s ∈ l, s.dp ≤ 1) : dps l ≤ 1 := by
  induction l with
  | nil => rw [dps]; omega
  | cons a r ih => rw [dps]; exact Nat.max_le.mpr ⟨h a (List.mem_cons_self ..), ih fun s hs => h s (List.mem_cons_of_mem _ hs)⟩
/-- what the law calls -/
structure LawC (C : Nat → Fun1) : Prop where
  uses : UsesOk (C 11)
  settled : Settled (C 9)
  book : BookDraw (C 23)
  byname : ByName (C 12)
  alldone : AllDone (C 26)
  urn : UrnMake (C 13)
  lset : ∀ (ps : List Pt) (S : Str → List Sp) (q : Nat) (st : Store), BookOk ps → SeEq ps S → st[q]? = some (ptT ps) → ∀ p ∈ ps, C 24 [.ref q, .tup (vsOf p.told)] st = .ok (.tup (vsOf (S p.name))) st
  cnt : ∀ (l : List Sp) (st : Store), oks l → dps l ≤ 1 → C 18 [.tup (vsOf l)] st = .ok (.int (cnts l)) st
  small : ∀ (ps : List Pt) (W : Str → Nat) (q : Nat) (st : Store), BookOk ps → SzEq ps W → st[q]? = some (ptT ps) → ∀ p ∈ ps, C 28 [.ref q, p.v] st = .ok (.bl (decide ((W p.name : Int) < 41))) st
theorem oMul3 {st : Store} {r : Nat} {x : Val} (h : st[r]? = some (.lst [x])) : oMul (.ref r) (.int 3) st = some (.ref st.length, st ++ [.lst [x, x, x]]) := by
  rw [oMul_ref, h]
  unfold kMulR
  exact if_pos ⟨⟨by decide, by decide⟩, by unfold fits; rw [szl]; simp⟩
/-- the same three times: their texts are one -/
theorem same_repr {e1 : Ev} {x : Val} {a : Ev} {ρ : Slots} {st s1 : Store} {r1 : Nat} (hx : fineAll [x, x, x] = true) (ht : tlAll [x, x, x] ≤ 16000000) (hd : depAll [x, x, x] ≤ 60) (h1 : e1 ρ st = .ok (.ref r1) s1) (h2 : s1[r1]? = some (.lst [x, x, x])) (h3 : a ρ s1 = .ok x s1) :
    tOf (eOp2 oNe (eOpN nRepr (lCons e1 lNil)) (eOpN nRepr (lCons (eOp2 oMul (eLst (lCons a lNil)) (eC (.int 3))) lNil))) ρ st = .ok false (s1 ++ [.lst [x], .lst [x, x, x]]) := by
  obtain ⟨t, ht⟩ := nRepr_lst hx ht hd
  have q1 := ht s1 r1 h2
  have hm : oMul (.ref s1.length) (.int 3) (s1 ++ [.lst [x]]) = some (.ref (s1.length + 1), s1 ++ [.lst [x], .lst [x, x, x]]) := by
    have := oMul3 (st := s1 ++ [.lst [x]]) (r := s1.length) (x := x) (by rw [app_at0]; rfl)
    rw [this]; simp
  have q2 := ht (s1 ++ [.lst [x], .lst [x, x, x]]) (s1.length + 1) (by rw [app_at]; rfl)
  simp [h1, q1, h3, hm, q2]
end W64
namespace W64
open PySem PySem.Spec L2 EV
theorem tl3 {x : Val} {B : Nat} (hf : x.fine = true) (ht : x.tl ≤ 5000000) (hd : x.dep ≤ 50) : fineAll [x, x, x] = true ∧ tlAll [x, x, x] ≤ 16000000 ∧ depAll [x, x, x] ≤ 60 := by
  refine ⟨by simp [hf], by simp; omega, by simp; omega⟩
theorem row_small {ps : List Pt} (hb : BookOk ps) (l : List Str) : (Val.tup (rowOf ps l)).fine = true ∧ (Val.tup (rowOf ps l)).tl ≤ 5000000 ∧ (Val.tup (rowOf ps l)).dep ≤ 50 := by
  have hm : ∀ x ∈ rowOf ps l, x.fine = true ∧ x.tl = 60 ∧ x.dep = 0 := fun x hx => by
    unfold rowOf at hx
    obtain ⟨n, hn, rfl⟩ := List.mem_map.mp hx
    obtain ⟨p, hp, rfl⟩ := List.mem_map.mp (List.mem_filter.mp hn).1
    obtain ⟨i, hi⟩ := List.mem_iff_getElem?.mp hp
    have := (hb.ok i p hi).fine
    obtain ⟨k, r, hv⟩ := pv_name p
    rw [hv] at this
    simp at this
    exact ⟨this.2.1, by simp, by simp⟩
  have h1 : tlAll (rowOf ps l) ≤ (rowOf ps l).length * (60 + 2) := tlAll_le fun x hx => Nat.le_of_eq (hm x hx).2.1
  have h2 : (rowOf ps l).length ≤ 6 := by
    unfold rowOf
    rw [List.length_map]
    have := List.length_filter_le (fun n => decide (n ∈ l)) (ps.map Pt.name)
    rw [List.length_map] at this
    have := hb.len
    omega
  have h3 : depAll (rowOf ps l) ≤ 0 := depAll_le fun x hx => Nat.le_of_eq (hm x hx).2.2
  exact ⟨by rw [fine_tup]; exact fineAll_iff.mpr fun x hx => (hm x hx).1, by rw [tl_tup]; omega, by rw [dep_tup]; omega⟩
theorem due_small {ps : List Pt} (hb : BookOk ps) {S : Str → List Sp} (hS : SeEq ps S) {p : Pt} (hp : p ∈ ps) {nm : List Val} (hnm : fineAll nm = true) (hnl : nm.length ≤ 3) (hnt : ∀ x ∈ nm, x.tl = 60 ∧ x.dep = 0) (hl : (S p.name).length ≤ 40) :
    (Val.tup [.tup nm, .tup (vsOf (S p.name))]).fine = true ∧ (Val.tup [.tup nm, .tup (vsOf (S p.name))]).tl ≤ 5000000 ∧ (Val.tup [.tup nm, .tup (vsOf (S p.name))]).dep ≤ 50 := by
  have hg := s_good hb hS p.name (mem_name hp)
  have ho := (sz_len hb hS p.name (mem_name hp)).2
  have h1 : tlAll nm ≤ nm.length * (60 + 2) := tlAll_le fun x hx => Nat.le_of_eq (hnt x hx).1
  have h2 : depAll nm ≤ 0 := depAll_le fun x hx => Nat.le_of_eq (hnt x hx).2
  have h3 : tlAll (vsOf (S p.name)) ≤ (vsOf (S p.name)).length * (100000 + 2) := tlAll_le fun x hx => by
    rw [vsOf_map] at hx
    obtain ⟨s, hs, rfl⟩ := List.mem_map.mp hx
    exact (hg s hs).2.1
  have h4 : depAll (vsOf (S p.name)) ≤ 9 := depAll_le fun x hx => by
    rw [vsOf_map] at hx
    obtain ⟨s, hs, rfl⟩ := List.mem_map.mp hx
    exact (hg s hs).2.2
  rw [vs_len] at h3
  have h5 : (S p.name).length * (100000 + 2) ≤ 40 * (100000 + 2) := Nat.mul_le_mul_right _ hl
  refine ⟨by simp [hnm, oks_fine _ ho], by simp; omega, by simp; omega⟩
def rowF (l : List Str) (v : Val) : Option Val := match v with
  | .tup (_ :: .str n :: _) => if n ∈ l then some (.str n) else none
  | _ => none
theorem row_of_vals (ps : List Pt) (l : List Str) : (ps.map Pt.v).filterMap (rowF l) = rowOf ps l := by
  unfold rowOf
  induction ps with
  | nil => rfl
  | cons a r ih =>
    obtain ⟨kk, rr, hv⟩ := pv_name a
    rw [List.map_cons, List.map_cons]
    by_cases hd : a.name ∈ l
    · rw [List.filterMap_cons_some (b := .str a.name) (by rw [hv]; simp [rowF, hd]), List.filter_cons_of_pos (by simp [hd]), List.map_cons, ih]
    · rw [List.filterMap_cons_none (by rw [hv]; simp [rowF, hd]), List.filter_cons_of_neg (by simp [hd]), ih]
/-- one part's turn of the law -/
theorem part_turn {C : Nat → Fun1} (L : LawC C) {ps : List Pt} {nm : List Val} {i : Nat} {p : Pt} {q : Nat} {s : Store} {x0 x1 x2 x4 y8 y9 y10 y11 y12 y13 y14 : Option Val} (hb : BookOk ps) (hnm : fineAll nm = true) (hnl : nm.length ≤ 3) (hnt : ∀ x ∈ nm, x.tl = 60 ∧ x.dep = 0)
    (hp : ps[i]? = some p) (hq : s[q]? = some (ptT ps)) : ∃ (o8 o9 o10 o11 o12 o13 : Option Val) (s' : Store), b29_1 C [x0, x1, x2, some (bookV nm ps), x4, some (.ref q), some (.int (i : Int)), some p.v, y8, y9, y10, y11, y12, y13, y14] s =
      .nx [x0, x1, x2, some (bookV nm ps), x4, some (.ref q), some (.int (i : Int)), some p.v, o8, o9, o10, o11, o12, o13, y14] s' ∧ FR s s' := by
  obtain ⟨W, hW⟩ := w_ex hb
  obtain ⟨S, hS⟩ := s_ex hb
  obtain ⟨U, hU⟩ := u_ex hb
  have hm := List.mem_of_getElem? hp
  have hil := (List.getElem?_eq_some_iff.mp hp).1
  have hbk := book_take hb (i + 1)
  have hWk : SzEq (ps.take (i + 1)) W := fun r hr => hW r (List.mem_of_mem_take hr)
  have hSk : SeEq (ps.take (i + 1)) S := fun r hr => hS r (List.mem_of_mem_take hr)
  have hUk : UEq (ps.take (i + 1)) U := fun r hr => hU r (List.mem_of_mem_take hr)
  have hmk : p ∈ ps.take (i + 1) := by rw [List.take_succ, hp]; simp
  obtain ⟨kk, rr, hv⟩ := pv_name p
  have h6 : ∀ s : Store, oIx p.v (.int 1) s = some (.str p.name, s) := fun s => by rw [hv]; simp
  have hix0 : ∀ s : Store, oIx (bookV nm ps) (.int 0) s = some (.tup nm, s) := fun s => by simp [bookV]
  have hix1 : ∀ s : Store, oIx (bookV nm ps) (.int 1) s = some (.tup (ps.map Pt.v), s) := fun s => by simp [bookV]
  have hsl : ∀ s : Store, slOf (.tup (ps.map Pt.v)) none (some ((i : Int) + 1)) s = some (.tup ((ps.take (i + 1)).map Pt.v), s) := fun s => by
    have := slOf_tup (xs := ps.map Pt.v) (st := s) (n := i + 1) (by rw [List.length_map]; omega)
    rw [List.map_take]
    exact this
  let due : Val := .tup (vsOf (S p.name))
  have hdue := L.lset ps S q s hb hS hq p hm
  obtain ⟨fs, hfs, hfm⟩ := L.alldone ps p q U s hb hU hm hq
  let s1 : Store := s ++ [.lst (fs.map Val.str)]
  have hin1 : s1[s.length]? = some (.lst (fs.map Val.str)) := by rw [app_at0]; rfl
  let row : Val := .tup (rowOf ps (U p.name))
  let s2 : Store := s1 ++ [.lst (rowOf ps (U p.name))]
  let ρ8 : Option Val → Option Val → Option Val → Option Val → Slots := fun a b c d => [x0, x1, x2, some (bookV nm ps), x4, some (.ref q), some (.int (i : Int)), some p.v, some (.str p.name), some (bookV nm (ps.take (i + 1))), a, b, c, d, y14]
  have hrow : eOpN nTuple (lCons (eComp (iSeq (eOp2 oIx (eVar 3) (eC (.int 1)))) [14] (gSlot 14) (t29_0 C) (e29_0 C)) lNil) (ρ8 (some due) (some (.ref s.length)) y12 y13) s1 = .ok row s2 := by
    have hc := comp_pure (s := .vals (ps.map Pt.v)) (g := gSlot 14) (t := t29_0 C) (e := e29_0 C) (ρ := [x0, x1, x2, some (bookV nm ps), x4, some (.ref q), some (.int (i : Int)), some p.v, some (.str p.name), some (bookV nm (ps.take (i + 1))), some due, some (.ref s.length), y12, y13, none]) (st := s1) (rowF (U p.name)) trivial (ps.map Pt.v) (fun v hv => by
        obtain ⟨r, hr, rfl⟩ := List.mem_map.mp hv
        obtain ⟨k2, r2, hv2⟩ := pv_name r
        have hin := oIn_strsR (a := r.name) hin1
        have hfm' := hfm r.name
        refine ⟨_, rfl, ?_⟩
        by_cases hd : r.name ∈ U p.name
        · left; exact ⟨.str r.name, by simp [t29_0, hv2, hin, hfm'.mpr hd], by simp [e29_0, hv2], by rw [hv2]; simp [rowF, hd]⟩
        · have hnf : r.name ∉ fs := fun h => hd (hfm'.mp h)
          right; exact ⟨by simp [t29_0, hv2, hin, hnf], by rw [hv2]; simp [rowF, hd]⟩)
    have hr := row_of_vals ps (U p.name)
    rw [hr] at hc
    have hz : (rowOf ps (U p.name)).length ≤ sizeLine := by
      unfold rowOf
      rw [List.length_map, szl]
      have := List.length_filter_le (fun n => decide (n ∈ U p.name)) (ps.map Pt.name)
      rw [List.length_map] at this
      have := hb.len
      omega
    simp [ρ8, hix1, hc, jComp_ok hz, nTuple_ref, kTupR_l, s2, row]
  have q2 : s2[q]? = some (ptT ps) := app_old (app_old hq)
  have u1 := L.uses nm ps p U s2 hb hU hm
  have u2 := L.uses nm (ps.take (i + 1)) p U s2 hbk hUk hmk
  rw [row_take hb (u_take hb hU hp)] at u2
  obtain ⟨r1, r2, r3⟩ := row_small hb (U p.name)
  obtain ⟨t1, t2, t3⟩ := tl3 (B := 0) r1 r2 r3
  have ht1 := same_repr (e1 := eLst (lCons (eCall (C 11) (lCons (eVar 3) (lCons (eVar 8) (lNil)))) (lCons (eCallK (C 11) [1, 0] lNil (lCons (eVar 8) (lCons (eVar 3) (lNil)))) (lCons (eCall (C 11) (lCons (eVar 9) (lCons (eVar 8) (lNil)))) (lNil))))) (x := row) (a := eVar 12) (ρ := ρ8 (some due) (some (.ref s.length)) (some row) y13) (st := s2) (s1 := s2 ++ [.lst [row, row, row]]) (r1 := s2.length) t1 t2 t3
    (by simp [ρ8, u1, u2, row]) (by rw [app_at0]; rfl) rfl
  let s3 : Store := s2 ++ [.lst [row, row, row]] ++ [.lst [row], .lst [row, row, row]]
  have hfr3 : FR s s3 := ((((FR.refl s).app _).app _).app _).app _
  have q3 : s3[q]? = some (ptT ps) := app_old (app_old q2)
  have hso := (sz_len hb hS p.name (mem_name hm)).2
  have hcn := L.cnt (S p.name) s3 hso (dps_le fun z hz => (s_good hb hS p.name (mem_name hm) z hz).1)
  have hsm := L.small ps W q s3 hb hW q3 p hm
  have hcl := cnts_le (S p.name)
  -- the last test
  have fin : ∃ (o13 : Option Val) (s' : Store), sIf (EV.tAnd (tOf (eOp2 oLt (eCall (C 18) (lCons (eVar 10) (lNil))) (eC (.int 41)))) (tOf (eCall (C 28) (lCons (eVar 5) (lCons (eVar 7) (lNil)))))) (sSeq (sSet (eLst (lCons (eCall (C 9) (lCons (eVar 3) (lCons (eVar 8) (lNil)))) (lCons (eCallK (C 9) [1, 0] lNil (lCons (eVar 8) (lCons (eVar 3) (lNil)))) (lCons (eCall (C 9) (lCons (eVar 9) (lCons (eVar 8) (lNil)))) (lNil))))) (gSlot 13)) (sIf (tOf (eOp2 oNe (eOpN nRepr (lCons (eVar 13) (lNil))) (eOpN nRepr (lCons (eOp2 oMul (eLst (lCons (eTup (lCons (eOp2 oIx (eVar 3) (eC (.int 0))) (lCons (eVar 10) (lNil)))) (lNil))) (eC (.int 3))) (lNil))))) (sRet (eC (.bl false))) (sNop))) (sNop) (ρ8 (some due) (some (.ref s.length)) (some row) y13) s3 = .nx (ρ8 (some due) (some (.ref s.length)) (some row) o13) s' ∧ FR s s' := by
    by_cases hc : cnts (S p.name) < 41 ∧ W p.name < 41
    · have hc1 : ((cnts (S p.name) : Nat) : Int) < 41 := by omega
      have hc2 : ((W p.name : Nat) : Int) < 41 := by omega
      have g1 := L.settled nm ps p W S s3 hnm hb hW hS hm (by omega)
      have g2 := L.settled nm (ps.take (i + 1)) p W S s3 hnm hbk hWk hSk hmk (by omega)
      let ans : Val := .tup [.tup nm, due]
      obtain ⟨d1, d2, d3⟩ := due_small hb hS hm hnm hnl hnt (by omega)
      obtain ⟨e1, e2, e3⟩ := tl3 (B := 0) d1 d2 d3
      have ht2 := same_repr (e1 := eVar 13) (x := ans) (a := eTup (lCons (eOp2 oIx (eVar 3) (eC (.int 0))) (lCons (eVar 10) (lNil)))) (ρ := ρ8 (some due) (some (.ref s.length)) (some row) (some (.ref s3.length))) (st := s3 ++ [.lst [ans, ans, ans]]) (s1 := s3 ++ [.lst [ans, ans, ans]]) (r1 := s3.length) e1 e2 e3 rfl (by rw [app_at0]; rfl) (by simp [ρ8, hix0, ans])
      refine ⟨some (.ref s3.length), _, if_t (st1 := s3) ?_ (seq_go (ρ1 := ρ8 (some due) (some (.ref s.length)) (some row) (some (.ref s3.length))) (st1 := s3 ++ [.lst [ans, ans, ans]]) ?_ (if_f ht2 rfl)), (hfr3.app _).app _⟩
      · simp [ρ8, due, hcn, hc1, hsm, hc2]
      · simp [ρ8, g1, g2, ans, due]
    · refine ⟨y13, s3, if_f (st1 := s3) ?_ rfl, hfr3⟩
      by_cases hc1 : cnts (S p.name) < 41
      · have hc1' : ((cnts (S p.name) : Nat) : Int) < 41 := by omega
        have hc2' : ¬ ((W p.name : Nat) : Int) < 41 := fun h => hc ⟨hc1, by omega⟩
        simp [ρ8, due, hcn, hc1', hsm, hc2']
      · have hc1' : ¬ ((cnts (S p.name) : Nat) : Int) < 41 := by omega
        simp [ρ8, due, hcn, hc1']
  obtain ⟨o13, s', hfin, hfr⟩ := fin
  refine ⟨some (.str p.name), some (bookV nm (ps.take (i + 1))), some due, some (.ref s.length), some row, o13, s', ?_, hfr⟩
  unfold b29_1
  refine seq_go (ρ1 := ρ8 y10 y11 y12 y13) (st1 := s) (by simp [h6, hix0, hix1, hsl, ρ8, bookV]) ?_
  refine seq_go (ρ1 := ρ8 (some due) y11 y12 y13) (st1 := s) (set_go (v := due) ?_ rfl) ?_
  · have h4 := told_expr p 7 (ρ8 y10 y11 y12 y13) s rfl
    show Res.bind (lCons (eVar 5) (lCons _ lNil) _ _) _ = _
    rw [lCons_k, show eVar 5 (ρ8 y10 y11 y12 y13) s = .ok (.ref q) s from rfl, kCons_k, lCons_k, h4]
    exact hdue
  refine seq_go (ρ1 := ρ8 (some due) (some (.ref s.length)) y12 y13) (st1 := s1) (by simp [ρ8, hfs, s1]) ?_
  refine seq_go (ρ1 := ρ8 (some due) (some (.ref s.length)) (some row) y13) (st1 := s2) (set_go hrow rfl) ?_
  exact seq_go (ρ1 := ρ8 (some due) (some (.ref s.length)) (some row) y13) (st1 := s3) (if_f ht1 rfl) hfin
end W64
namespace W64
open PySem PySem.Spec L2 EV
theorem IsUrn.fr {u d : Nat} {a b : Store} (h : IsUrn u d a) (k : FR a b) : IsUrn u d b := by
  obtain ⟨s, t, ns, h1, h2, h3⟩ := h.ex
  exact ⟨h.ne, s, t, ns, k.at_ h1, k.at_ h2, h3⟩
theorem gcR_bl (st s : Store) (b : Bool) : ∃ st', gcR st (.ok (.bl b) s) = .ok (.bl b) st' := by
  refine ⟨(gc st (.bl b) s).2, ?_⟩
  show Res.ok (gc st (.bl b) s).1 (gc st (.bl b) s).2 = _
  have : (gc st (.bl b) s).1 = .bl b := by
    unfold gc
    split
    · rw [if_pos (by unfold Val.bel; rfl)]
    · rfl
  rw [this]
theorem book_small {ps : List Pt} (hb : BookOk ps) {nm : List Val} (hnm : fineAll nm = true) (hnl : nm.length ≤ 3) (hnt : ∀ x ∈ nm, x.tl = 60 ∧ x.dep = 0) : fineAll [.tup nm, .tup (ps.map Pt.v)] = true ∧ tlAll [.tup nm, .tup (ps.map Pt.v)] ≤ 16000000 ∧ depAll [.tup nm, .tup (ps.map Pt.v)] ≤ 60 := by
  have hv : ∀ x ∈ ps.map Pt.v, x.fine = true ∧ x.tl ≤ 1000000 ∧ x.dep ≤ 20 := fun x hx => by
    obtain ⟨p, hp, rfl⟩ := List.mem_map.mp hx
    obtain ⟨i, hi⟩ := List.mem_iff_getElem?.mp hp
    have h := hb.ok i p hi
    exact ⟨h.fine, h.tl, h.dep⟩
  have h1 : tlAll nm ≤ nm.length * (60 + 2) := tlAll_le fun x hx => Nat.le_of_eq (hnt x hx).1
  have h2 : depAll nm ≤ 0 := depAll_le fun x hx => Nat.le_of_eq (hnt x hx).2
  have h3 : tlAll (ps.map Pt.v) ≤ (ps.map Pt.v).length * (1000000 + 2) := tlAll_le fun x hx => (hv x hx).2.1
  have h4 : depAll (ps.map Pt.v) ≤ 20 := depAll_le fun x hx => (hv x hx).2.2
  have h5 : fineAll (ps.map Pt.v) = true := fineAll_iff.mpr fun x hx => (hv x hx).1
  rw [List.length_map] at h3
  have h6 : ps.length * (1000000 + 2) ≤ 6 * (1000000 + 2) := Nat.mul_le_mul_right _ hb.len
  exact ⟨by simp [hnm, h5], by simp; omega, by simp; omega⟩
theorem law_ok {C : Nat → Fun1} (L : LawC C) (ns : List Int) (y : Val) (st : Store) (hy : IsScript ns y st) : ∃ st', runF (m29 C) 15 [y] st = .ok (.bl true) st' := by
  obtain ⟨u, d, s0, e0, hu0⟩ := L.urn ns y st hy
  obtain ⟨ρ', s', e, a2, a3, a4, a5, a6, a7, a8, a9, a10, a11, a12, a13, a14, rfl, hu'⟩ := for_rule (s := .vals (rangeL 0 5)) (g := gSlot 2) (b := b29_2 C) (fun i ρ s => ∃ (a2 a3 a4 a5 a6 a7 a8 a9 a10 a11 a12 a13 a14 : Option Val), ρ = [some y, some (.ref u), a2, a3, a4, a5, a6, a7, a8, a9, a10, a11, a12, a13, a14] ∧ IsUrn u d s) (rangeL 0 5) (fun _ _ _ _ => trivial) (by
    rintro i x ρ s hx ⟨a2, a3, a4, a5, a6, a7, a8, a9, a10, a11, a12, a13, a14, rfl, hu⟩
    obtain ⟨nm, ps, s1, e1, r1, hb, hnm, hnl, hnt⟩ := L.book u d s hu
    obtain ⟨b1, b2, b3⟩ := book_small hb hnm hnl hnt
    obtain ⟨t, ht⟩ := nRepr_tup b1 b2 b3
    have e2 := L.byname nm ps s1 hb
    let s2 : Store := s1 ++ [ptT ps]
    have hq2 : s2[s1.length]? = some (ptT ps) := by rw [app_at0]; rfl
    obtain ⟨ρ3, s3, e3, o6, o7, o8, o9, o10, o11, o12, o13, rfl, hfr⟩ := for_rule (s := .vals (enumL 0 (ps.map Pt.v))) (g := gTupT (gsCons (gSlot 6) (gsCons (gSlot 7) gsNil))) (b := b29_1 C) (fun i ρ s => ∃ (o6 o7 o8 o9 o10 o11 o12 o13 : Option Val), ρ = [some y, some (.ref u), some x, some (bookV nm ps), some (.str t), some (.ref s1.length), o6, o7, o8, o9, o10, o11, o12, o13, a14] ∧ FR s2 s) (enumL 0 (ps.map Pt.v)) (fun _ _ _ _ => trivial) (by
      rintro j z ρ s hz ⟨o6, o7, o8, o9, o10, o11, o12, o13, rfl, hfr⟩
      obtain ⟨v, hv, rfl⟩ := enumL_get _ _ _ _ hz
      rw [List.getElem?_map, Option.map_eq_some_iff] at hv
      obtain ⟨p, hp, rfl⟩ := hv
      rw [Nat.zero_add]
      obtain ⟨p8, p9, p10, p11, p12, p13, s', e, hfr'⟩ := part_turn (C := C) L (ps := ps) (nm := nm) (i := j) (p := p) (q := s1.length) (s := s) (x0 := some y) (x1 := some (.ref u)) (x2 := some x) (x4 := some (.str t)) (y8 := o8) (y9 := o9) (y10 := o10) (y11 := o11) (y12 := o12) (y13 := o13) (y14 := a14) hb hnm hnl hnt hp (hfr.at_ hq2)
      exact ⟨_, _, s', rfl, .inl e, some (.int (j : Int)), some p.v, p8, p9, p10, p11, p12, p13, rfl, hfr.trans hfr'⟩) [some y, some (.ref u), some x, some (bookV nm ps), some (.str t), some (.ref s1.length), a6, a7, a8, a9, a10, a11, a12, a13, a14] s2 ⟨a6, a7, a8, a9, a10, a11, a12, a13, rfl, FR.refl _⟩
    have hr1 : nRepr [bookV nm ps] s1 = some (.str t, s1) := ht s1
    have hr2 : nRepr [bookV nm ps] s3 = some (.str t, s3) := ht s3
    have hix1 : ∀ s : Store, oIx (bookV nm ps) (.int 1) s = some (.tup (ps.map Pt.v), s) := fun s => by simp [bookV]
    refine ⟨[some y, some (.ref u), some x, a3, a4, a5, a6, a7, a8, a9, a10, a11, a12, a13, a14], [some y, some (.ref u), some x, some (bookV nm ps), some (.str t), some (.ref s1.length), o6, o7, o8, o9, o10, o11, o12, o13, a14], s3, rfl, .inl ?_, some x, some (bookV nm ps), some (.str t), some (.ref s1.length), o6, o7, o8, o9, o10, o11, o12, o13, a14, rfl, IsUrn.fr (r1.urn.app [ptT ps]) hfr⟩
    unfold b29_2
    refine seq_go (ρ1 := [some y, some (.ref u), some x, some (bookV nm ps), a4, a5, a6, a7, a8, a9, a10, a11, a12, a13, a14]) (st1 := s1) (by simp [e1]) ?_
    refine seq_go (ρ1 := [some y, some (.ref u), some x, some (bookV nm ps), some (.str t), some (.ref s1.length), a6, a7, a8, a9, a10, a11, a12, a13, a14]) (st1 := s2) (by simp [hr1, e2, s2]) ?_
    refine seq_go (ρ1 := [some y, some (.ref u), some x, some (bookV nm ps), some (.str t), some (.ref s1.length), o6, o7, o8, o9, o10, o11, o12, o13, a14]) (st1 := s3) ?_ ?_
    · rw [← e3]
      simp [hix1]
    · refine if_f (st1 := s3) ?_ rfl
      simp [hr2]) [some y, some (.ref u), none, none, none, none, none, none, none, none, none, none, none, none, none] s0 ⟨none, none, none, none, none, none, none, none, none, none, none, none, none, rfl, hu0⟩
  obtain ⟨st', hg⟩ := gcR_bl st s' true
  refine ⟨st', ?_⟩
  rw [← hg]
  have E : m29 C (startS 15 [y]) st = .rt (.bl true) s' := by
    unfold m29
    refine seq_go (ρ1 := [some y, some (.ref u), none, none, none, none, none, none, none, none, none, none, none, none, none]) (st1 := s0) (by simp [e0]) ?_
    refine seq_go (ρ1 := [some y, some (.ref u), a2, a3, a4, a5, a6, a7, a8, a9, a10, a11, a12, a13, a14]) (st1 := s') ?_ rfl
    have hr : inRange 5 := ⟨by decide, by decide⟩
    rw [← e]
    simp [hr]
  show gcR st (bodyR (m29 C (startS 15 [y]) st)) = _
  rw [E]
  rfl
/-! ### all together -/
theorem take_at (n : Nat) : TakeOk (CC (n + 1) 14) := by rw [cc14]; exact take_ok _
theorem pick_at (n : Nat) : PickOk (CC (n + 2) 15) := by rw [cc15]; exact pick_ok (take_at n)
theorem mixed_at (n : Nat) : MixOk (CC (n + 2) 16) := by rw [cc16]; exact mixed_ok (take_at n)
theorem die_at (n : Nat) : DieOk (CC (n + 3) 19) := by rw [cc19]; exact die_ok (pick_at n)
theorem step0_at (n : Nat) : StepOk (CC (n + 4) 20) 0 2000 := by
  rw [cc20]; exact step_ok 0 2000 0 (by omega) (take_at (n + 2)) (pick_at (n + 1)) (die_at n) (fun h => absurd rfl h) (Nat.le_refl _) (fun h => absurd rfl h)
theorem steps0_at (n : Nat) : StepsOk (CC (n + 5) 21) 0 2000 := by rw [cc21]; exact steps_ok 0 2000 (pick_at (n + 2)) (step0_at n)
theorem step1_at (n : Nat) : StepOk (CC (n + 6) 20) 1 100000 := by
  rw [cc20]; exact step_ok 1 100000 2000 (by omega) (take_at (n + 4)) (pick_at (n + 3)) (die_at (n + 2)) (fun _ => steps0_at n) (by omega) (fun _ => by omega)
theorem steps1_at (n : Nat) : StepsOk (CC (n + 7) 21) 1 100000 := by rw [cc21]; exact steps_ok 1 100000 (pick_at (n + 4)) (step1_at n)
theorem names_at (n : Nat) : NamesOk (CC (n + 3) 22) := by rw [cc22]; exact names_ok (mixed_at n)
theorem book_at (n : Nat) : BookDraw (CC (n + 8) 23) := by rw [cc23]; exact book_ok (take_at (n + 6)) (pick_at (n + 5)) (steps1_at n) (names_at (n + 4))
theorem branch_at (n : Nat) : BranchOk (CC (n + 1) 0) := by rw [cc0]; exact branch_ok _
theorem walked_at (n : Nat) : WalkedOk (CC (n + 2) 1) := by rw [cc1]; exact walked_ok (branch_at n)
theorem ways_at (n : Nat) : WaysOk (CC (n + 3) 2) := by rw [cc2]; exact ways_ok (walked_at n)
theorem done_at (n : Nat) : DoneIn (CC (n + 1) 3) := by rw [cc3]; exact doneIn_ok _
theorem namesDone_at (n : Nat) : NamesDone (CC (n + 1) 10) := by rw [cc10]; exact namesDone_ok _
theorem size_at (n : Nat) : SizeOf (CC (n + 4) 4) := by rw [cc4]; exact sizeOf_ok (ways_at n) (namesDone_at (n + 2))
theorem toldI_at (n : Nat) : ToldItems (CC (n + 1) 5) := by rw [cc5]; exact toldItems_ok _
theorem toldS_at (n : Nat) : ToldSizes (CC (n + 5) 6) := by rw [cc6]; exact toldSizes_ok (size_at n) (toldI_at (n + 3))
theorem allS_at (n : Nat) : AllSettled (CC (n + 6) 7) := by rw [cc7]; exact allSettled_ok (done_at (n + 4)) (toldI_at (n + 4)) (toldS_at n)
theorem called_at (n : Nat) : PartCalled (CC (n + 1) 8) := by rw [cc8]; exact partCalled_ok _
theorem settled_at (n : Nat) : Settled (CC (n + 7) 9) := by rw [cc9]; exact settled_ok (called_at (n + 5)) (toldS_at (n + 1)) (allS_at n)
theorem uses_at (n : Nat) : UsesOk (CC (n + 2) 11) := by rw [cc11]; exact uses_ok (called_at n) (namesDone_at n)
theorem lawC_at (n : Nat) : LawC (CC (n + 20)) where
  uses := uses_at (n + 18)
  settled := settled_at (n + 13)
  book := book_at (n + 12)
  byname := by rw [cc12]; exact byName_ok _
  alldone := by rw [cc26]; exact allDone_ok (by rw [cc25]; exact lawDone_ok _)
  urn := by rw [cc13]; exact urn_ok _
  lset := fun ps S q st hb hS hq p hp => lawSettled_ok hb hS hq p hp (n + 20) (by omega)
  cnt := fun l st ho hd => count_ok 1 (n + 20) (by omega) l st ho hd
  small := fun ps W q st hb hW hq p hp => by rw [cc28]; exact isSmall_ok (ps := ps) (lawWeight_ok hb hW hq p hp (n + 19) (by omega))
theorem hlaw : ∀ ns y st, IsScript ns y st → ∃ st', CC 150 29 [y] st = .ok (.bl true) st' := fun ns y st h => by
  rw [show (150 : Nat) = 149 + 1 from rfl, cc29]
  exact law_ok (lawC_at 129) ns y st h
end W64
namespace W64
open PySem PySem.Spec L2 PyProof.Rows EV
def fn : List He.DefD := [⟨("is_branching", none), "is_branching", "is_branching", defArgs (top 6), defBody (top 6), defScope (top 6), [], []⟩, ⟨("walked", none), "walked", "walked", defArgs (top 7), defBody (top 7), defScope (top 7), [], []⟩, ⟨("ways", none), "ways", "ways", defArgs (top 8), defBody (top 8), defScope (top 8), [], []⟩, ⟨("done_in", none), "done_in", "done_in", defArgs (top 10), defBody (top 10), defScope (top 10), [], []⟩, ⟨("size_of", none), "size_of", "size_of", defArgs (top 11), defBody (top 11), defScope (top 11), [], []⟩, ⟨("told_items", none), "told_items", "told_items", defArgs (top 12), defBody (top 12), defScope (top 12), [], []⟩, ⟨("told_sizes", none), "told_sizes", "told_sizes", defArgs (top 13), defBody (top 13), defScope (top 13), [], []⟩, ⟨("all_settled", none), "all_settled", "all_settled", defArgs (top 14), defBody (top 14), defScope (top 14), [], []⟩, ⟨("part_called", none), "part_called", "part_called", defArgs (top 15), defBody (top 15), defScope (top 15), [], []⟩, ⟨("settled", none), "settled", "settled", defArgs (top 16), defBody (top 16), defScope (top 16), [], []⟩, ⟨("names_done", none), "names_done", "names_done", defArgs (top 17), defBody (top 17), defScope (top 17), [], []⟩, ⟨("uses", none), "uses", "uses", defArgs (top 18), defBody (top 18), defScope (top 18), [], []⟩, ⟨("_law_by_name", none), "_law_by_name", "_law_by_name", defArgs (top 20), defBody (top 20), defScope (top 20), [], []⟩, ⟨("_law_urn", none), "_law_urn", "_law_urn", defArgs (top 21), defBody (top 21), defScope (top 21), [], []⟩, ⟨("_law_take", none), "_law_take", "_law_take", defArgs (top 22), defBody (top 22), defScope (top 22), [], []⟩, ⟨("_law_pick", none), "_law_pick", "_law_pick", defArgs (top 23), defBody (top 23), defScope (top 23), [], []⟩, ⟨("_law_mixed", none), "_law_mixed", "_law_mixed", defArgs (top 24), defBody (top 24), defScope (top 24), [], []⟩, ⟨("_law_is_branch", none), "_law_is_branch", "_law_is_branch", defArgs (top 25), defBody (top 25), defScope (top 25), [], []⟩, ⟨("_law_count", none), "_law_count", "_law_count", defArgs (top 26), defBody (top 26), defScope (top 26), [], []⟩, ⟨("_law_any_die", none), "_law_any_die", "_law_any_die", defArgs (top 27), defBody (top 27), defScope (top 27), [], []⟩, ⟨("_law_any_step", none), "_law_any_step", "_law_any_step", defArgs (top 28), defBody (top 28), defScope (top 28), [], []⟩, ⟨("_law_any_steps", none), "_law_any_steps", "_law_any_steps", defArgs (top 29), defBody (top 29), defScope (top 29), [], []⟩, ⟨("_law_names", none), "_law_names", "_law_names", defArgs (top 30), defBody (top 30), defScope (top 30), [], []⟩, ⟨("_law_any_book", none), "_law_any_book", "_law_any_book", defArgs (top 31), defBody (top 31), defScope (top 31), [], []⟩, ⟨("_law_settled", none), "_law_settled", "_law_settled", defArgs (top 32), defBody (top 32), defScope (top 32), [], []⟩, ⟨("_law_done", none), "_law_done", "_law_done", defArgs (top 33), defBody (top 33), defScope (top 33), [], []⟩, ⟨("_law_all_done", none), "_law_all_done", "_law_all_done", defArgs (top 34), defBody (top 34), defScope (top 34), [], []⟩, ⟨("_law_weight", none), "_law_weight", "_law_weight", defArgs (top 35), defBody (top 35), defScope (top 35), [], []⟩, ⟨("_law_is_small", none), "_law_is_small", "_law_is_small", defArgs (top 36), defBody (top 36), defScope (top 36), [], []⟩, ⟨("law", none), "law", "law", defArgs (top 37), defBody (top 37), defScope (top 37), [], []⟩]
def fa : List He.Fa := [.glo "is_branching", .glo "walked", .glo "ways", .glo "done_in", .glo "size_of", .glo "told_items", .glo "told_sizes", .glo "all_settled", .glo "part_called", .glo "settled", .glo "names_done", .glo "uses", .glo "_law_by_name", .glo "_law_urn", .glo "_law_take", .glo "_law_pick", .glo "_law_mixed", .glo "_law_is_branch", .glo "_law_count", .glo "_law_any_die", .glo "_law_any_step", .glo "_law_any_steps", .glo "_law_names", .glo "_law_any_book", .glo "_law_settled", .glo "_law_done", .glo "_law_all_done", .glo "_law_weight", .glo "_law_is_small", .glo "law", .free "abs", .free "enumerate", .free "int", .free "isinstance", .free "len", .free "list", .free "range", .free "repr", .free "str", .free "sum", .free "tuple", .int "MAX_NODES" 40]
abbrev R : PySem.W.OpenRow := PySem.W.OpenLaw.row PySem.Challenge.rw_everystart_k64_whole_settled_parts_and_u
abbrev hk : PySem.W.Hook := He.hookD 4 fa fn
def ob (s : PySem.W.SharedT) : He.AlD := He.obsDG 4 fa fn (HandSHeadRun.getT s)
theorem obEq (s : PySem.W.SharedT) : ob s = hk.obs s.abs := He.obsDG_eq (HandSHeadRun.getT_eq s)
def loose : List Str := (["MAX_NODES", "__name__", "ThrowError", "NoName", "TooMany", "is_branching", "walked", "ways", "done_in", "size_of", "told_items", "told_sizes", "all_settled", "part_called", "settled", "names_done", "uses", "_law_by_name", "_law_urn", "_law_take", "_law_pick", "_law_mixed", "_law_is_branch", "_law_count", "_law_any_die", "_law_any_step", "_law_any_steps", "_law_names", "_law_any_book", "_law_settled"] : List Str) ++ (["_law_done", "_law_all_done", "_law_weight", "_law_is_small"] : List Str)
theorem runs (w : World) : HandSHeadRun.RunEq R (PySem.W.view R.prog [37]) hk ob 4000 loose w := by
  intro os
  kernel_rfl
theorem factsOf {K : PySem.W.Frag} {h : Heap} {mg : Str → Option Value} (X : K.In h) (G : h.Ns mainGlobals mg) (c : He.SaysD fa fn K) : Fx K mg := {
  g_abs := He.free_ok X G (c.fact 30 (f := .free "abs") rfl)
  g_enumerate := He.free_ok X G (c.fact 31 (f := .free "enumerate") rfl)
  g_int := He.free_ok X G (c.fact 32 (f := .free "int") rfl)
  g_isinstance := He.free_ok X G (c.fact 33 (f := .free "isinstance") rfl)
  g_len := He.free_ok X G (c.fact 34 (f := .free "len") rfl)
  g_list := He.free_ok X G (c.fact 35 (f := .free "list") rfl)
  g_range := He.free_ok X G (c.fact 36 (f := .free "range") rfl)
  g_repr := He.free_ok X G (c.fact 37 (f := .free "repr") rfl)
  g_str := He.free_ok X G (c.fact 38 (f := .free "str") rfl)
  g_sum := He.free_ok X G (c.fact 39 (f := .free "sum") rfl)
  g_tuple := He.free_ok X G (c.fact 40 (f := .free "tuple") rfl)
  c_MAX_NODES := He.int_ok X G (c.fact 41 (f := .int "MAX_NODES" 40) rfl)
  h0 := by
    obtain ⟨fd, F⟩ := c.def_ 0 (d := ⟨("is_branching", none), "is_branching", "is_branching", defArgs (top 6), defBody (top 6), defScope (top 6), [], []⟩) rfl
    exact ⟨_, fd, F, He.glo_ok X G (c.fact 0 (f := .glo "is_branching") rfl)⟩
  h1 := by
    obtain ⟨fd, F⟩ := c.def_ 1 (d := ⟨("walked", none), "walked", "walked", defArgs (top 7), defBody (top 7), defScope (top 7), [], []⟩) rfl
    exact ⟨_, fd, F, He.glo_ok X G (c.fact 1 (f := .glo "walked") rfl)⟩
  h2 := by
    obtain ⟨fd, F⟩ := c.def_ 2 (d := ⟨("ways", none), "ways", "ways", defArgs (top 8), defBody (top 8), defScope (top 8), [], []⟩) rfl
    exact ⟨_, fd, F, He.glo_ok X G (c.fact 2 (f := .glo "ways") rfl)⟩
  h3 := by
    obtain ⟨fd, F⟩ := c.def_ 3 (d := ⟨("done_in", none), "done_in", "done_in", defArgs (top 10), defBody (top 10), defScope (top 10), [], []⟩) rfl
    exact ⟨_, fd, F, He.glo_ok X G (c.fact 3 (f := .glo "done_in") rfl)⟩
  h4 := by
    obtain ⟨fd, F⟩ := c.def_ 4 (d := ⟨("size_of", none), "size_of", "size_of", defArgs (top 11), defBody (top 11), defScope (top 11), [], []⟩) rfl
    exact ⟨_, fd, F, He.glo_ok X G (c.fact 4 (f := .glo "size_of") rfl)⟩
  h5 := by
    obtain ⟨fd, F⟩ := c.def_ 5 (d := ⟨("told_items", none), "told_items", "told_items", defArgs (top 12), defBody (top 12), defScope (top 12), [], []⟩) rfl
    exact ⟨_, fd, F, He.glo_ok X G (c.fact 5 (f := .glo "told_items") rfl)⟩
  h6 := by
    obtain ⟨fd, F⟩ := c.def_ 6 (d := ⟨("told_sizes", none), "told_sizes", "told_sizes", defArgs (top 13), defBody (top 13), defScope (top 13), [], []⟩) rfl
    exact ⟨_, fd, F, He.glo_ok X G (c.fact 6 (f := .glo "told_sizes") rfl)⟩
  h7 := by
    obtain ⟨fd, F⟩ := c.def_ 7 (d := ⟨("all_settled", none), "all_settled", "all_settled", defArgs (top 14), defBody (top 14), defScope (top 14), [], []⟩) rfl
    exact ⟨_, fd, F, He.glo_ok X G (c.fact 7 (f := .glo "all_settled") rfl)⟩
  h8 := by
    obtain ⟨fd, F⟩ := c.def_ 8 (d := ⟨("part_called", none), "part_called", "part_called", defArgs (top 15), defBody (top 15), defScope (top 15), [], []⟩) rfl
    exact ⟨_, fd, F, He.glo_ok X G (c.fact 8 (f := .glo "part_called") rfl)⟩
  h9 := by
    obtain ⟨fd, F⟩ := c.def_ 9 (d := ⟨("settled", none), "settled", "settled", defArgs (top 16), defBody (top 16), defScope (top 16), [], []⟩) rfl
    exact ⟨_, fd, F, He.glo_ok X G (c.fact 9 (f := .glo "settled") rfl)⟩
  h10 := by
    obtain ⟨fd, F⟩ := c.def_ 10 (d := ⟨("names_done", none), "names_done", "names_done", defArgs (top 17), defBody (top 17), defScope (top 17), [], []⟩) rfl
    exact ⟨_, fd, F, He.glo_ok X G (c.fact 10 (f := .glo "names_done") rfl)⟩
  h11 := by
    obtain ⟨fd, F⟩ := c.def_ 11 (d := ⟨("uses", none), "uses", "uses", defArgs (top 18), defBody (top 18), defScope (top 18), [], []⟩) rfl
    exact ⟨_, fd, F, He.glo_ok X G (c.fact 11 (f := .glo "uses") rfl)⟩
  h12 := by
    obtain ⟨fd, F⟩ := c.def_ 12 (d := ⟨("_law_by_name", none), "_law_by_name", "_law_by_name", defArgs (top 20), defBody (top 20), defScope (top 20), [], []⟩) rfl
    exact ⟨_, fd, F, He.glo_ok X G (c.fact 12 (f := .glo "_law_by_name") rfl)⟩
  h13 := by
    obtain ⟨fd, F⟩ := c.def_ 13 (d := ⟨("_law_urn", none), "_law_urn", "_law_urn", defArgs (top 21), defBody (top 21), defScope (top 21), [], []⟩) rfl
    exact ⟨_, fd, F, He.glo_ok X G (c.fact 13 (f := .glo "_law_urn") rfl)⟩
  h14 := by
    obtain ⟨fd, F⟩ := c.def_ 14 (d := ⟨("_law_take", none), "_law_take", "_law_take", defArgs (top 22), defBody (top 22), defScope (top 22), [], []⟩) rfl
    exact ⟨_, fd, F, He.glo_ok X G (c.fact 14 (f := .glo "_law_take") rfl)⟩
  h15 := by
    obtain ⟨fd, F⟩ := c.def_ 15 (d := ⟨("_law_pick", none), "_law_pick", "_law_pick", defArgs (top 23), defBody (top 23), defScope (top 23), [], []⟩) rfl
    exact ⟨_, fd, F, He.glo_ok X G (c.fact 15 (f := .glo "_law_pick") rfl)⟩
  h16 := by
    obtain ⟨fd, F⟩ := c.def_ 16 (d := ⟨("_law_mixed", none), "_law_mixed", "_law_mixed", defArgs (top 24), defBody (top 24), defScope (top 24), [], []⟩) rfl
    exact ⟨_, fd, F, He.glo_ok X G (c.fact 16 (f := .glo "_law_mixed") rfl)⟩
  h17 := by
    obtain ⟨fd, F⟩ := c.def_ 17 (d := ⟨("_law_is_branch", none), "_law_is_branch", "_law_is_branch", defArgs (top 25), defBody (top 25), defScope (top 25), [], []⟩) rfl
    exact ⟨_, fd, F, He.glo_ok X G (c.fact 17 (f := .glo "_law_is_branch") rfl)⟩
  h18 := by
    obtain ⟨fd, F⟩ := c.def_ 18 (d := ⟨("_law_count", none), "_law_count", "_law_count", defArgs (top 26), defBody (top 26), defScope (top 26), [], []⟩) rfl
    exact ⟨_, fd, F, He.glo_ok X G (c.fact 18 (f := .glo "_law_count") rfl)⟩
  h19 := by
    obtain ⟨fd, F⟩ := c.def_ 19 (d := ⟨("_law_any_die", none), "_law_any_die", "_law_any_die", defArgs (top 27), defBody (top 27), defScope (top 27), [], []⟩) rfl
    exact ⟨_, fd, F, He.glo_ok X G (c.fact 19 (f := .glo "_law_any_die") rfl)⟩
  h20 := by
    obtain ⟨fd, F⟩ := c.def_ 20 (d := ⟨("_law_any_step", none), "_law_any_step", "_law_any_step", defArgs (top 28), defBody (top 28), defScope (top 28), [], []⟩) rfl
    exact ⟨_, fd, F, He.glo_ok X G (c.fact 20 (f := .glo "_law_any_step") rfl)⟩
  h21 := by
    obtain ⟨fd, F⟩ := c.def_ 21 (d := ⟨("_law_any_steps", none), "_law_any_steps", "_law_any_steps", defArgs (top 29), defBody (top 29), defScope (top 29), [], []⟩) rfl
    exact ⟨_, fd, F, He.glo_ok X G (c.fact 21 (f := .glo "_law_any_steps") rfl)⟩
  h22 := by
    obtain ⟨fd, F⟩ := c.def_ 22 (d := ⟨("_law_names", none), "_law_names", "_law_names", defArgs (top 30), defBody (top 30), defScope (top 30), [], []⟩) rfl
    exact ⟨_, fd, F, He.glo_ok X G (c.fact 22 (f := .glo "_law_names") rfl)⟩
  h23 := by
    obtain ⟨fd, F⟩ := c.def_ 23 (d := ⟨("_law_any_book", none), "_law_any_book", "_law_any_book", defArgs (top 31), defBody (top 31), defScope (top 31), [], []⟩) rfl
    exact ⟨_, fd, F, He.glo_ok X G (c.fact 23 (f := .glo "_law_any_book") rfl)⟩
  h24 := by
    obtain ⟨fd, F⟩ := c.def_ 24 (d := ⟨("_law_settled", none), "_law_settled", "_law_settled", defArgs (top 32), defBody (top 32), defScope (top 32), [], []⟩) rfl
    exact ⟨_, fd, F, He.glo_ok X G (c.fact 24 (f := .glo "_law_settled") rfl)⟩
  h25 := by
    obtain ⟨fd, F⟩ := c.def_ 25 (d := ⟨("_law_done", none), "_law_done", "_law_done", defArgs (top 33), defBody (top 33), defScope (top 33), [], []⟩) rfl
    exact ⟨_, fd, F, He.glo_ok X G (c.fact 25 (f := .glo "_law_done") rfl)⟩
  h26 := by
    obtain ⟨fd, F⟩ := c.def_ 26 (d := ⟨("_law_all_done", none), "_law_all_done", "_law_all_done", defArgs (top 34), defBody (top 34), defScope (top 34), [], []⟩) rfl
    exact ⟨_, fd, F, He.glo_ok X G (c.fact 26 (f := .glo "_law_all_done") rfl)⟩
  h27 := by
    obtain ⟨fd, F⟩ := c.def_ 27 (d := ⟨("_law_weight", none), "_law_weight", "_law_weight", defArgs (top 35), defBody (top 35), defScope (top 35), [], []⟩) rfl
    exact ⟨_, fd, F, He.glo_ok X G (c.fact 27 (f := .glo "_law_weight") rfl)⟩
  h28 := by
    obtain ⟨fd, F⟩ := c.def_ 28 (d := ⟨("_law_is_small", none), "_law_is_small", "_law_is_small", defArgs (top 36), defBody (top 36), defScope (top 36), [], []⟩) rfl
    exact ⟨_, fd, F, He.glo_ok X G (c.fact 28 (f := .glo "_law_is_small") rfl)⟩
  h29 := by
    obtain ⟨fd, F⟩ := c.def_ 29 (d := ⟨("law", none), "law", "law", defArgs (top 37), defBody (top 37), defScope (top 37), [], []⟩) rfl
    exact ⟨_, fd, F, He.glo_ok X G (c.fact 29 (f := .glo "law") rfl)⟩
}
/-- the function object of the law -/
theorem law_fn {P : Program} {w : World} {K : PySem.W.Frag} {mg : Str → Option Value} {fa0 : Addr} (T : Fx K mg) (e : mg "law" = some (.ref fa0)) (n : Nat) :
    ∃ fd : FuncData, (∀ (s : Shared) (u : Value), BindsTo s fd ⟨[u], []⟩ [("script", u)]) ∧ ∀ base : Heap, FnG P w K mg base n fa0 fd ["script"] (spM ⟨K, mg⟩ 1 (CC n 29)) := by
  obtain ⟨f, fd, D, hm⟩ := T.h29
  have q := hm.symm.trans e
  cases q
  refine ⟨fd, fun s u => FunD.bindsA (ps := ["script"]) D (fun _ _ _ _ _ _ us hl => match us, hl with | [_], _ => rfl) s [u] rfl, fun base => ?_⟩
  obtain ⟨f2, fd2, h2, F⟩ := (all_ok (P := P) (w := w) (base := base) T n).d29
  obtain ⟨rfl, rfl⟩ := Has.uniq ⟨D, hm⟩ h2
  exact F
end W64
open PySem PySem.W PySem.Calls PyProof.Rows
/-- the statement, from the law's answer by meanings -/
theorem W64.join (hlaw : ∀ ns y st, EV.IsScript ns y st → ∃ st', W64.CC 150 29 [y] st = .ok (.bl true) st') : PySem.Challenge.rw_everystart_k64_whole_settled_parts_and_u.Holds := by
  w_on; o_law
  refine HandSHeadRun.head_any (r := OpenLaw.row PySem.Challenge.rw_everystart_k64_whole_settled_parts_and_u) (q := view (OpenLaw.row PySem.Challenge.rw_everystart_k64_whole_settled_parts_and_u).prog [37]) (H := W64.hk) (ob := W64.ob) (M := 4000) (loose := W64.loose) (d := HandSHeadRun.topDef (OpenLaw.row PySem.Challenge.rw_everystart_k64_whole_settled_parts_and_u).prog 37) (kwd := []) W64.obEq
    (by kernel_rfl) (fun s => by kernel_rfl) W64.runs (by kernel_rfl) (by kernel_rfl) (by kernel_rfl) (by rfl) (by first | assumption | decide +kernel) (by decide +kernel) ⟨rfl, rfl, rfl, rfl, rfl, by decide +kernel⟩ ?hw ?hc
  case hw => w_witness2
  case hc =>
    refine EV.walk_ofG (l := PySem.Challenge.rw_everystart_k64_whole_settled_parts_and_u) (n := 63) (k := 150) (x := "script") (mf := W64.CC 150 29) rfl (by decide) (by kernel_rfl) EV.room_caller EV.guards_caller ?F hlaw
    intro w mg fa0 h Y G hmg0
    obtain ⟨K, KX, c⟩ := Y
    have hmg : mg ("law" : PySem.Str) = some (.ref fa0) := by
      have e : (HandSHeadRun.topDef (OpenLaw.row PySem.Challenge.rw_everystart_k64_whole_settled_parts_and_u).prog 37).name = ("law" : PySem.Str) := by kernel_rfl
      rw [← e]
      exact hmg0
    obtain ⟨fd, hb, hF⟩ := W64.law_fn (P := (PySem.Challenge.rw_everystart_k64_whole_settled_parts_and_u).prog) (w := w) (W64.factsOf KX G c) hmg 150
    exact ⟨K, fd, KX, hb, fun base _ _ => hF base⟩
theorem PySem.Challenge.cw_everystart_k64_whole_settled_parts_and_u_holds : PySem.Challenge.rw_everystart_k64_whole_settled_parts_and_u.Holds := by
  exact W64.join W64.hlaw
