import PyProof.Rows.All
import Wide.All
import OpenK.AllK
import Wide.FinOn
import HandS.ForMost
import HandS.Exc
import KE.SortData
import HandS.AnyAll
import HandS.TupAny
import HandS.Deep
import HandS.TupLen
import HandS.CallSlots
import HandS.Walk
import HandS.DictTup
import HandS.DictComp
import HandS.IsInst
import KE.GoesMore
import KE.GoesEnum
import HandS.DictEq
import KE.KDictCopyH
import HandS.Defaults
import HandS.HeadHook2
import HandS.Nested
import HandS.SetFor
import HandS.SortInts
import HandS.ClsMeth
import HandS.Rev
import HandS.WordsExc
import HandS.Head0
import HandS.Head1
import HandS.Head2
import HandS.HeadEnd
import HandS.HeadHook1
import HandS.HeadHook3
import HandS.HeadHook4
import HandS.EndTab
import KE.DatumOrd
import HandS.WideBits
import KE.DatumMore
import PySem.Challenge.RW_towerduel_k02_alike_and_after
set_option Elab.async false
set_option linter.all false
set_option maxRecDepth 100000
/-! EA: the values, states and programs of E. -/
namespace EL
open PySem (Str PyData)

/-- a value of E: data are plain; a mutable thing is told by its cell -/
inductive U where
  | non | bl (b : Bool) | int (i : Int) | str (x : Str)
  | tup (xs : List U) | lst (xs : List U)
  | dic (t : Bool) (kvs : List (U × U))
  | obj (c : Str) (fs : List (Str × U))
  | ref (i : Nat)
  | scr (ns : List Int)

/-- a slot of a body: no value, a value, a list or dict of its own -/
inductive SV where
  | no | val (u : U) | ol (xs : List U) | od (t : Bool) (kvs : List (U × U))
/-- a cell -/
inductive EO where
  | lst (xs : List U) | dic (t : Bool) (kvs : List (U × U)) | ins (c : Str) (fs : List (Str × U))
  | fdic (t : Bool) (kvs : List (U × U))
/-- a cell that is changed no more -/
def fzO : EO → Bool
  | .fdic _ _ => true
  | _ => false

structure S where
  env : List SV
  hp : List EO

inductive R (α : Type) where
  | ok (a : α) (s : S)
  | ex (c : Str) (f : Str) (v : U) (s : S)
inductive FR where
  | ok (u : U) (hp : List EO)
  | ex (c : Str) (f : Str) (v : U) (hp : List EO)
abbrev Phi := Str → List U → List EO → Option FR
abbrev M (α : Type) := Phi → S → Option (R α)

def bnd {α β : Type} (m : M α) (f : α → M β) : M β := fun Φ s => match m Φ s with
  | none => none
  | some (.ok a s') => f a Φ s'
  | some (.ex c g v s') => some (.ex c g v s')
def ret {α : Type} (a : α) : M α := fun _ s => some (.ok a s)
def fail {α : Type} : M α := fun _ _ => none
def ofO {α : Type} (o : Option α) : M α := fun _ s => match o with
  | none => none
  | some a => some (.ok a s)

/-! ### data -/
mutual
def toD : U → Option PyData
  | .non => some .none
  | .bl b => some (.bool b)
  | .int i => some (.int i)
  | .str x => some (.str x)
  | .tup xs => (toDs xs).map .tuple
  | .lst xs => (toDs xs).map .list
  | .dic _ _ => none
  | .obj _ _ => none
  | .ref _ => none
  | .scr _ => none
def toDs : List U → Option (List PyData)
  | [] => some []
  | x :: xs => match toD x, toDs xs with
    | some d, some ds => some (d :: ds)
    | _, _ => none
end
def toS (u : U) : Option PyData := match toD u with
  | some d => if PySem.SeqAt.shaped d = true then some d else none
  | none => none
/-- a == b -/
def eqU (a b : U) : Option Bool := match toS a, toS b with
  | some d, some e => some (PyData.eqv d e)
  | _, _ => none

/-! ### operations on values -/
inductive BOp where
  | add | sub | mul | fdiv | mod | shl | band | bor
def line : Nat := 16777216
def bAdd : U → U → Option U
  | .int i, .int j => some (.int (i + j))
  | .lst xs, .lst ys => if xs.length + ys.length ≤ line then some (.lst (xs ++ ys)) else none
  | .tup xs, .tup ys => if xs.length + ys.length ≤ line then some (.tup (xs ++ ys)) else none
  | .str x, .str y => if x.length + y.length ≤ line then some (.str (x ++ y)) else none
  | _, _ => none
def bInt (c : Int → Int → Bool) (g : Int → Int → Int) : U → U → Option U
  | .int i, .int j => if c i j = true then some (.int (g i j)) else none
  | _, _ => none
def bop : BOp → U → U → Option U
  | .add => bAdd
  | .sub => bInt (fun _ _ => true) fun i j => i - j
  | .mul => bInt (fun i j => decide (-(2 ^ 64) < i ∧ i < 2 ^ 64 ∨ -(2 ^ 64) < j ∧ j < 2 ^ 64)) fun i j => i * j
  | .fdiv => bInt (fun _ j => decide (j ≠ 0 ∧ j.natAbs < 1073741824)) fun i j => i.fdiv j
  | .mod => bInt (fun _ j => decide (j ≠ 0)) fun i j => i.fmod j
  | .shl => bInt (fun i j => decide (0 ≤ j ∧ j ≤ 1000000 ∧ i.natAbs < 2 ^ 64)) fun i j => i * 2 ^ j.toNat
  | .band => bInt (fun _ _ => true) PySem.Builtin.bitAnd
  | .bor => bInt (fun _ _ => true) PySem.Builtin.bitOr
end EL
namespace EL
open PySem (Str PyData)
def notNone : PyData → Bool
  | .none => false
  | _ => true
/-- a < b, of alike data -/
def ltD (a b : U) : Option Bool := match toS a, toS b with
  | some d, some e => if (PySem.W.alike d e && notNone d) = true then some (PySem.W.dataLt d e) else none
  | _, _ => none
def ltU : U → U → Option Bool
  | .int i, .int j => some (decide (i < j))
  | a, b => ltD a b
inductive COp where
  | eq | ne | lt | le | gt | ge | isN | notN
def isNon : U → Bool
  | .non => true
  | _ => false
def cInt (g : Int → Int → Bool) : U → U → Option Bool
  | .int i, .int j => some (g i j)
  | _, _ => none
def cNon (neg : Bool) : U → U → Option Bool
  | a, .non => some (if neg = true then !isNon a else isNon a)
  | _, _ => none
def cop : COp → U → U → Option Bool
  | .eq => eqU
  | .ne => fun a b => (eqU a b).map (!·)
  | .lt => ltU
  | .le => cInt fun i j => decide (i ≤ j)
  | .gt => cInt fun i j => decide (j < i)
  | .ge => cInt fun i j => decide (j ≤ i)
  | .isN => cNon false
  | .notN => cNon true
/-- x in us -/
def inU (x : U) (us : List U) : Option Bool := match toS x, toS (.lst us) with
  | some d, some (.list ds) => some (ds.any fun z => PyData.eqv z d)
  | _, _ => none
end EL
namespace EL
open PySem (Str PyData)
/-! ### keys -/
def toK : U → Option L2.Key
  | .int i => some (.inl i)
  | .str x => some (.inr x)
  | _ => none
def toKs : List U → Option (List L2.Key)
  | [] => some []
  | x :: xs => match toK x, toKs xs with
    | some k, some ks => some (k :: ks)
    | _, _ => none
def toKT : U → Option (List L2.Key)
  | .tup us => toKs us
  | _ => none
/-- what a dict holds for a key: none where the key is out of form -/
def look (t : Bool) (kvs : List (U × U)) (k : U) : Option (Option U) :=
  if t = true then (toKT k).map fun kk => (kvs.find? fun e => decide (toKT e.1 = some kk)).map (·.2)
  else (toK k).map fun kk => (kvs.find? fun e => decide (toK e.1 = some kk)).map (·.2)
/-- a dict with one more entry, or an old one's value set -/
def putU (kvs : List (U × U)) (p : U → Bool) (k v : U) : List (U × U) :=
  if kvs.any (fun e => p e.1) = true then kvs.map fun e => if p e.1 = true then (e.1, v) else e else kvs ++ [(k, v)]
def put (t : Bool) (kvs : List (U × U)) (k v : U) : Option (List (U × U)) :=
  if kvs.length < line then
    (if t = true then (toKT k).map fun kk => putU kvs (fun e => decide (toKT e = some kk)) k v
    else (toK k).map fun kk => putU kvs (fun e => decide (toK e = some kk)) k v)
  else none

/-! ### handles: what is only looked at -/
inductive Hd where
  | sl (i : Nat) | u (u : U)
def seqOf (s : S) : Hd → Option (Bool × List U)
  | .u (.lst us) => some (false, us)
  | .u (.tup us) => some (true, us)
  | .u (.scr ns) => some (false, ns.map U.int)
  | .u (.ref i) => match s.hp[i]? with
    | some (.lst us) => some (false, us)
    | _ => none
  | .sl i => match s.env[i]? with
    | some (.ol us) => some (false, us)
    | _ => none
  | _ => none
def dicOf (s : S) : Hd → Option (Bool × List (U × U))
  | .u (.dic t kvs) => some (t, kvs)
  | .u (.ref i) => match s.hp[i]? with
    | some (.dic t kvs) => some (t, kvs)
    | some (.fdic t kvs) => some (t, kvs)
    | _ => none
  | .sl i => match s.env[i]? with
    | some (.od t kvs) => some (t, kvs)
    | _ => none
  | _ => none
def mSlot (i : Nat) : M Hd := fun _ s => match s.env[i]? with
  | some (.val u) => some (.ok (.u u) s)
  | some (.ol _) => some (.ok (.sl i) s)
  | some (.od _ _) => some (.ok (.sl i) s)
  | _ => none
def hdl (m : M U) : M Hd := bnd m fun u => ret (.u u)
/-- by what stands in a state -/
def look' {α : Type} (g : S → Option α) : M α := fun _ s => match g s with
  | none => none
  | some x => some (.ok x s)
def getU (s : S) (h : Hd) (i : U) : Option U := match seqOf s h with
  | some (_, us) => (match i with
    | .int k => L2.atI us k
    | _ => none)
  | none => (match dicOf s h with
    | some (t, kvs) => (match look t kvs i with
      | some (some v) => some v
      | _ => none)
    | none => none)
/-- x in h -/
def memU (s : S) (x : U) (h : Hd) : Option Bool := match seqOf s h with
  | some (_, us) => inU x us
  | none => (match dicOf s h with
    | some (t, kvs) => (look t kvs x).map Option.isSome
    | none => none)
def lenU (s : S) (h : Hd) : Option U := match seqOf s h with
  | some (_, us) => some (.int us.length)
  | none => (match dicOf s h with
    | some (_, kvs) => some (.int kvs.length)
    | none => none)
end EL
namespace EL
open PySem (Str PyData)
/-! ### names -/
def setE (s : S) (i : Nat) (v : SV) : S := ⟨s.env.set i v, s.hp⟩
/-- a name's value; a list or dict of the slot's own is frozen by it -/
def eVar (i : Nat) : M U := fun _ s => match s.env[i]? with
  | some (.val u) => some (.ok u s)
  | some (.ol us) => some (.ok (.lst us) (setE s i (.val (.lst us))))
  | some (.od t kvs) => some (.ok (.dic t kvs) (setE s i (.val (.dic t kvs))))
  | _ => none
end EL
set_option Elab.async false
set_option linter.all false
set_option maxRecDepth 100000
/-! EB: how E's states lie in the abstract heap of HandS. -/
namespace EL
open PySem L2

/-- where the classes stand; the tables of the code objects -/
structure Cl where
  fn : Str → Addr
  T : List Addr
instance : CoeFun Cl fun _ => Str → Addr := ⟨Cl.fn⟩
/-- the frozen addresses, the cells' addresses -/
structure W where
  F : Addr → Prop
  ρ : List Addr

/-- a class and its instances' fields, as K has them -/
def OkC (K : PySem.W.Frag) (C : Addr) (fs : List (Str × U)) : Prop := Cls K C ∧ ∀ f u, fs.lookup f = some u → NoAttr K C f
/-- a key's value in E -/
def kU : L2.Key → U
  | .inl i => .int i
  | .inr x => .str x

section
variable (K : PySem.W.Frag) (cls : Cl) (w : W) (H : Hp)
mutual
inductive RU : U → V → Prop
  | non : RU .non .non
  | bl (b : Bool) : RU (.bl b) (.bl b)
  | int (i : Int) : RU (.int i) (.int i)
  | str (x : Str) : RU (.str x) (.str x)
  | tup {p : Addr} {us : List U} {vs : List V} : w.F p → H p = some (.tup vs) → RUs us vs → RU (.tup us) (.ref p)
  | lst {p : Addr} {us : List U} {vs : List V} : w.F p → H p = some (.lst vs) → RUs us vs → RU (.lst us) (.ref p)
  | dicK {p : Addr} {us : List (U × U)} {o : Obj} {ks : List (L2.Key × V)} : w.F p → H p = some (.frz o (.dK ks)) → RKs us ks → RU (.dic false us) (.ref p)
  | dicT {p : Addr} {us : List (U × U)} {o : Obj} {ks : List (List L2.Key × V)} : w.F p → H p = some (.frz o (.dT ks)) → RTs us ks → RU (.dic true us) (.ref p)
  | obj {p dx : Addr} {c : Str} {fs : List (Str × U)} {gs : List (Str × V)} : w.F p → H p = some (.ins (cls c) dx gs) → RFs fs gs → OkC K (cls c) fs → RU (.obj c fs) (.ref p)
  | ref {p : Addr} {i : Nat} : w.ρ[i]? = some p → RU (.ref i) (.ref p)
  | scr {p : Addr} {ns : List Int} : w.F p → Rd H p (.lst (ns.map V.int)) → RU (.scr ns) (.ref p)
  | scrK {p : Addr} {ns : List Int} : (∀ H' : Hp, SqL K H' p (ns.map V.int)) → RU (.scr ns) (.ref p)
inductive RUs : List U → List V → Prop
  | nil : RUs [] []
  | cons {u : U} {v : V} {us : List U} {vs : List V} : RU u v → RUs us vs → RUs (u :: us) (v :: vs)
inductive RKs : List (U × U) → List (L2.Key × V) → Prop
  | nil : RKs [] []
  | cons {k : L2.Key} {u : U} {v : V} {us : List (U × U)} {vs : List (L2.Key × V)} : RU u v → RKs us vs → RKs ((kU k, u) :: us) ((k, v) :: vs)
inductive RTs : List (U × U) → List (List L2.Key × V) → Prop
  | nil : RTs [] []
  | cons {k : List L2.Key} {u : U} {v : V} {us : List (U × U)} {vs : List (List L2.Key × V)} : RU u v → RTs us vs → RTs ((.tup (k.map kU), u) :: us) ((k, v) :: vs)
inductive RFs : List (Str × U) → List (Str × V) → Prop
  | nil : RFs [] []
  | cons {f : Str} {u : U} {v : V} {us : List (Str × U)} {vs : List (Str × V)} : RU u v → RFs us vs → RFs ((f, u) :: us) ((f, v) :: vs)
end

/-- what a cell, or a list or dict of a slot, holds at p -/
inductive OC : EO → Addr → Prop
  | lst {us : List U} {vs : List V} {p : Addr} : H p = some (.lst vs) → RUs K cls w H us vs → OC (.lst us) p
  | dicK {us : List (U × U)} {ks : List (L2.Key × V)} {p : Addr} : H p = some (.dK ks) → RKs K cls w H us ks → OC (.dic false us) p
  | dicT {us : List (U × U)} {ks : List (List L2.Key × V)} {p : Addr} : H p = some (.dT ks) → RTs K cls w H us ks → OC (.dic true us) p
  | ins {c : Str} {fs : List (Str × U)} {gs : List (Str × V)} {p dx : Addr} : H p = some (.ins (cls c) dx gs) → RFs K cls w H fs gs → OkC K (cls c) fs → OC (.ins c fs) p
  | fK {us : List (U × U)} {ks : List (L2.Key × V)} {p : Addr} {o : Obj} : w.F p → H p = some (.frz o (.dK ks)) → RKs K cls w H us ks → OC (.fdic false us) p
  | fT {us : List (U × U)} {ks : List (List L2.Key × V)} {p : Addr} {o : Obj} : w.F p → H p = some (.frz o (.dT ks)) → RTs K cls w H us ks → OC (.fdic true us) p
end

/-- from (w, H) on: what is frozen stays, cells keep their places -/
structure Stp (w : W) (H : Hp) (w' : W) (H' : Hp) : Prop where
  F : ∀ a, w.F a → w'.F a
  ρ : ∀ (i : Nat) (p : Addr), w.ρ[i]? = some p → w'.ρ[i]? = some p
  H : ∀ a, w.F a → H' a = H a
theorem Stp.refl {w : W} {H : Hp} : Stp w H w H := ⟨fun _ h => h, fun _ _ h => h, fun _ _ => rfl⟩
theorem Stp.trans {w w' w'' : W} {H H' H'' : Hp} (a : Stp w H w' H') (b : Stp w' H' w'' H'') : Stp w H w'' H'' :=
  ⟨fun x h => b.F x (a.F x h), fun i p h => b.ρ i p (a.ρ i p h), fun x h => (b.H x (a.F x h)).trans (a.H x h)⟩

section
variable {K : PySem.W.Frag} {cls : Cl} {w w' : W} {H H' : Hp}
theorem rd_step {a : Addr} {o : HO} (e : H' a = H a) (h : Rd H a o) : Rd H' a o := by
  rcases h with h | ⟨o, h⟩
  · exact .inl (e.trans h)
  · exact .inr ⟨o, e.trans h⟩
theorem RU.script {p : Addr} {ns : List Int} (h : RU K cls w H (.scr ns) (.ref p)) : SqL K H p (ns.map V.int) := by
  cases h with
  | scr _ h => exact .inl h
  | scrK h => exact h H
mutual
theorem RU.mono (s : Stp w H w' H') : ∀ {u : U} {v : V}, RU K cls w H u v → RU K cls w' H' u v
  | _, _, .non => .non
  | _, _, .bl b => .bl b
  | _, _, .int i => .int i
  | _, _, .str x => .str x
  | _, _, .tup f h r => .tup (s.F _ f) ((s.H _ f).trans h) (RUs.mono s r)
  | _, _, .lst f h r => .lst (s.F _ f) ((s.H _ f).trans h) (RUs.mono s r)
  | _, _, .dicK f h r => .dicK (s.F _ f) ((s.H _ f).trans h) (RKs.mono s r)
  | _, _, .dicT f h r => .dicT (s.F _ f) ((s.H _ f).trans h) (RTs.mono s r)
  | _, _, .obj f h r o => .obj (s.F _ f) ((s.H _ f).trans h) (RFs.mono s r) o
  | _, _, .ref h => .ref (s.ρ _ _ h)
  | _, _, .scr f h => .scr (s.F _ f) (rd_step (s.H _ f) h)
  | _, _, .scrK h => .scrK h
theorem RUs.mono (s : Stp w H w' H') : ∀ {u : List U} {v : List V}, RUs K cls w H u v → RUs K cls w' H' u v
  | _, _, .nil => .nil
  | _, _, .cons a b => .cons (RU.mono s a) (RUs.mono s b)
theorem RKs.mono (s : Stp w H w' H') : ∀ {u : List (U × U)} {v : List (L2.Key × V)}, RKs K cls w H u v → RKs K cls w' H' u v
  | _, _, .nil => .nil
  | _, _, .cons a b => .cons (RU.mono s a) (RKs.mono s b)
theorem RTs.mono (s : Stp w H w' H') : ∀ {u : List (U × U)} {v : List (List L2.Key × V)}, RTs K cls w H u v → RTs K cls w' H' u v
  | _, _, .nil => .nil
  | _, _, .cons a b => .cons (RU.mono s a) (RTs.mono s b)
theorem RFs.mono (s : Stp w H w' H') : ∀ {u : List (Str × U)} {v : List (Str × V)}, RFs K cls w H u v → RFs K cls w' H' u v
  | _, _, .nil => .nil
  | _, _, .cons a b => .cons (RU.mono s a) (RFs.mono s b)
end
end
section
variable {K : PySem.W.Frag} {cls : Cl} {w w' : W} {H H' : Hp}
theorem OC.there {o : EO} {p : Addr} (h : OC K cls w H o p) : H p ≠ none := by
  cases h with
  | lst h r => rw [h]; exact fun z => nomatch z
  | dicK h r => rw [h]; exact fun z => nomatch z
  | dicT h r => rw [h]; exact fun z => nomatch z
  | ins h r o => rw [h]; exact fun z => nomatch z
  | fK f h r => rw [h]; exact fun z => nomatch z
  | fT f h r => rw [h]; exact fun z => nomatch z
theorem OC.mono {o : EO} {p : Addr} (s : Stp w H w' H') (e : H' p = H p) (h : OC K cls w H o p) : OC K cls w' H' o p := by
  cases h with
  | lst h r => exact .lst (e.trans h) (r.mono s)
  | dicK h r => exact .dicK (e.trans h) (r.mono s)
  | dicT h r => exact .dicT (e.trans h) (r.mono s)
  | ins h r o => exact .ins (e.trans h) (r.mono s) o
  | fK f h r => exact .fK (s.F _ f) (e.trans h) (r.mono s)
  | fT f h r => exact .fT (s.F _ f) (e.trans h) (r.mono s)
end

/-- one activation: the written part, the classes, the entry, what is wanted of an exception -/
structure Act where
  K : PySem.W.Frag
  cls : Cl
  F0 : Addr → Prop
  ρ0 : List Addr
  H0 : Hp
  E : Value → Option Addr → L2.St → Hp → Prop

/-- free at the entry, or a tuple -/
def Old0 (H : Hp) (x : Addr) : Prop := H x = none ∨ ∃ xs, H x = some (.tup xs)
theorem Old0.eq {H H' : Hp} {x : Addr} (e : H' x = H x) (h : Old0 H x) : Old0 H' x := by unfold Old0; rw [e]; exact h
def isOwn : SV → Bool
  | .ol _ => true
  | .od _ _ => true
  | _ => false
/-- a slot's state and its value -/
def SlotOk (K : PySem.W.Frag) (cls : Cl) (w : W) (H : Hp) : SV → Option (Option V) → Prop
  | .no, _ => True
  | .val u, v => ∃ x, v = some (some x) ∧ RU K cls w H u x
  | .ol us, v => ∃ p, v = some (some (.ref p)) ∧ OC K cls w H (.lst us) p
  | .od t us, v => ∃ p, v = some (some (.ref p)) ∧ OC K cls w H (.dic t us) p

structure Rel (a : Act) (w : W) (env : List SV) (hp : List EO) (σ : L2.St) (H : Hp) : Prop where
  len : env.length = σ.length
  slot : ∀ (i : Nat) (s : SV), env[i]? = some s → SlotOk a.K a.cls w H s σ[i]?
  own : ∀ (i : Nat) (s : SV) (p : Addr), env[i]? = some s → isOwn s = true → σ[i]? = some (some (.ref p)) → ¬ w.F p ∧ p ∉ w.ρ ∧ a.H0 p = none
  apart : ∀ (i j : Nat) (s t : SV) (p : Addr), env[i]? = some s → isOwn s = true → σ[i]? = some (some (.ref p)) → env[j]? = some t → isOwn t = true → σ[j]? = some (some (.ref p)) → i = j
  clen : w.ρ.length = hp.length
  cnd : w.ρ.Nodup
  cell : ∀ (i : Nat) (o : EO) (p : Addr), hp[i]? = some o → w.ρ[i]? = some p → OC a.K a.cls w H o p
  cellF : ∀ (i : Nat) (o : EO) (p : Addr), hp[i]? = some o → w.ρ[i]? = some p → fzO o = false → ¬ w.F p
  cell0 : ∀ p ∈ w.ρ, p ∈ a.ρ0 ∨ a.H0 p = none
  pre : ∀ (i : Nat) (p : Addr), a.ρ0[i]? = some p → w.ρ[i]? = some p
  frame : ∀ (x : Addr) (o : HO), a.H0 x = some o → x ∉ a.ρ0 → x ∉ a.cls.T → H x = some o
  frz : ∀ x, w.F x → H x ≠ none
  F0 : ∀ x, w.F x → a.F0 x ∨ Old0 a.H0 x ∨ x ∈ a.ρ0
  Fpre : ∀ x, a.F0 x → w.F x
  tab : ∀ x ∈ a.cls.T, GxR.TabG H x
  tabF : ∀ x ∈ a.cls.T, ¬ w.F x

section
variable {a : Act} {w : W} {env : List SV} {hp : List EO} {σ : L2.St} {H : Hp} {p : Addr} {o : HO}
theorem Rel.pre_mem (R : Rel a w env hp σ H) {x : Addr} (h : x ∈ a.ρ0) : x ∈ w.ρ := by
  obtain ⟨i, hi⟩ := List.mem_iff_getElem?.mp h
  exact List.mem_of_getElem? (R.pre i x hi)
theorem Rel.cell_there (R : Rel a w env hp σ H) {x : Addr} (h : x ∈ w.ρ) : H x ≠ none := by
  obtain ⟨i, hi⟩ := List.mem_iff_getElem?.mp h
  have hl : i < hp.length := by rw [← R.clen]; exact (List.getElem?_eq_some_iff.mp hi).1
  exact (R.cell i _ x (List.getElem?_eq_getElem hl) hi).there
/-- a new address was free at the entry -/
theorem Rel.fresh0 (R : Rel a w env hp σ H) (h : H p = none) : a.H0 p = none := by
  cases e : a.H0 p with
  | none => rfl
  | some o =>
    by_cases hm : p ∈ a.ρ0
    · exact absurd h (R.cell_there (R.pre_mem hm))
    · by_cases ht : p ∈ a.cls.T
      · obtain ⟨ps, z, _⟩ := R.tab p ht
        rw [z] at h; cases h
      · rw [R.frame p o e hm ht] at h; cases h
theorem Rel.slot_there (R : Rel a w env hp σ H) {i : Nat} {s : SV} (e : env[i]? = some s) (h : isOwn s = true) : ∃ p, σ[i]? = some (some (.ref p)) ∧ H p ≠ none := by
  have q := R.slot i s e
  cases s with
  | no => cases h
  | val u => cases h
  | ol us => obtain ⟨p, h1, h2⟩ := q; exact ⟨p, h1, h2.there⟩
  | od t us => obtain ⟨p, h1, h2⟩ := q; exact ⟨p, h1, h2.there⟩
theorem Rel.slot_ntup (R : Rel a w env hp σ H) {i : Nat} {s : SV} (e : env[i]? = some s) (h : isOwn s = true) (hq : σ[i]? = some (some (.ref p))) {xs : List V} : H p ≠ some (.tup xs) := by
  have q := R.slot i s e
  rw [hq] at q
  intro z
  cases s with
  | no => cases h
  | val u => cases h
  | ol us => obtain ⟨p', h1, h2⟩ := q; cases h1; cases h2 with
    | lst h3 _ => rw [h3] at z; cases z
  | od t us => obtain ⟨p', h1, h2⟩ := q; cases h1; cases h2 with
    | dicK h3 _ => rw [h3] at z; cases z
    | dicT h3 _ => rw [h3] at z; cases z
theorem OC.ntup {K : PySem.W.Frag} {cls : Cl} {o : EO} (h : OC K cls w H o p) {xs : List V} : H p ≠ some (.tup xs) := by
  intro z
  cases h with
  | lst h r => rw [h] at z; cases z
  | dicK h r => rw [h] at z; cases z
  | dicT h r => rw [h] at z; cases z
  | ins h r o => rw [h] at z; cases z
  | fK f h r => rw [h] at z; cases z
  | fT f h r => rw [h] at z; cases z
theorem OC.ntab {K : PySem.W.Frag} {cls : Cl} {o : EO} (h : OC K cls w H o p) {xs : Array Value} : H p ≠ some (.tbl xs) := by
  intro z
  cases h with
  | lst h r => rw [h] at z; cases z
  | dicK h r => rw [h] at z; cases z
  | dicT h r => rw [h] at z; cases z
  | ins h r o => rw [h] at z; cases z
  | fK f h r => rw [h] at z; cases z
  | fT f h r => rw [h] at z; cases z
theorem Rel.cell_ntup (R : Rel a w env hp σ H) {x : Addr} (h : x ∈ w.ρ) {xs : List V} : H x ≠ some (.tup xs) := by
  obtain ⟨i, hi⟩ := List.mem_iff_getElem?.mp h
  have hl : i < hp.length := by rw [← R.clen]; exact (List.getElem?_eq_some_iff.mp hi).1
  exact (R.cell i _ x (List.getElem?_eq_getElem hl) hi).ntup
theorem Rel.old0 (R : Rel a w env hp σ H) {x : Addr} (h : Old0 H x) : Old0 a.H0 x := by
  rcases h with h | ⟨xs, h⟩
  · exact .inl (R.fresh0 h)
  · cases e : a.H0 x with
    | none => exact .inl e
    | some o =>
      by_cases hm : x ∈ a.ρ0
      · exact absurd h (R.cell_ntup (R.pre_mem hm))
      · by_cases ht : x ∈ a.cls.T
        · obtain ⟨ps, z, _⟩ := R.tab x ht
          rw [z] at h; cases h
        · have q := R.frame x o e hm ht
          rw [h] at q; cases q
          exact .inr ⟨xs, e⟩
/-- a tuple counts as frozen -/
theorem Rel.addF (R : Rel a w env hp σ H) {q : Addr} {xs : List V} (h : H q = some (.tup xs)) : Rel a ⟨fun x => w.F x ∨ x = q, w.ρ⟩ env hp σ H ∧ Stp w H ⟨fun x => w.F x ∨ x = q, w.ρ⟩ H := by
  have st : Stp w H ⟨fun x => w.F x ∨ x = q, w.ρ⟩ H := ⟨fun _ h => .inl h, fun _ _ h => h, fun _ _ => rfl⟩
  have mono : ∀ {i : Nat} {s : SV}, env[i]? = some s → SlotOk a.K a.cls ⟨fun x => w.F x ∨ x = q, w.ρ⟩ H s σ[i]? := fun {i s} e => by
    have z := R.slot i s e
    cases s with
    | no => trivial
    | val u => obtain ⟨x, h1, h2⟩ := z; exact ⟨x, h1, h2.mono st⟩
    | ol us => obtain ⟨x, h1, h2⟩ := z; exact ⟨x, h1, h2.mono st rfl⟩
    | od t us => obtain ⟨x, h1, h2⟩ := z; exact ⟨x, h1, h2.mono st rfl⟩
  refine ⟨⟨R.len, fun i s e => mono e, fun i s p e ho hq => ?_, R.apart, R.clen, R.cnd, fun i u p hi hq => (R.cell i u p hi hq).mono st rfl, fun i o p hi hq hz z => ?_, R.cell0, R.pre, R.frame, fun x hx => ?_, fun x hx => ?_, fun x hx => .inl (R.Fpre x hx), R.tab, fun x hx z => ?_⟩, st⟩
  · obtain ⟨o1, o2, o3⟩ := R.own i s p e ho hq
    refine ⟨fun z => ?_, o2, o3⟩
    rcases z with z | z
    · exact o1 z
    · rw [← z] at h; exact R.slot_ntup e ho hq h
  · rcases z with z | z
    · exact R.cellF i o p hi hq hz z
    · rw [← z] at h; exact R.cell_ntup (List.mem_of_getElem? hq) h
  · rcases hx with hx | hx
    · exact R.frz x hx
    · rw [hx, h]; exact fun z => nomatch z
  · rcases hx with hx | hx
    · exact R.F0 x hx
    · rw [hx]; exact .inr (.inl (R.old0 (.inr ⟨xs, h⟩)))
  · rcases z with z | z
    · exact R.tabF x hx z
    · obtain ⟨ps, y, _⟩ := R.tab x hx
      rw [z, h] at y; cases y
theorem SlotOk.mono {K : PySem.W.Frag} {cls : Cl} {w w' : W} {H H' : Hp} {s : SV} {v : Option (Option V)} (st : Stp w H w' H') (h : SlotOk K cls w H s v) (e : isOwn s = true → ∀ p, v = some (some (.ref p)) → H' p = H p) : SlotOk K cls w' H' s v := by
  cases s with
  | no => trivial
  | val u => obtain ⟨x, h1, h2⟩ := h; exact ⟨x, h1, h2.mono st⟩
  | ol us => obtain ⟨x, h1, h2⟩ := h; exact ⟨x, h1, h2.mono st (e rfl x h1)⟩
  | od t us => obtain ⟨x, h1, h2⟩ := h; exact ⟨x, h1, h2.mono st (e rfl x h1)⟩

theorem Rel.tab_ne (R : Rel a w env hp σ H) (h : H p = none) {x : Addr} (hx : x ∈ a.cls.T) : x ≠ p := fun z => by
  obtain ⟨ps, y, _⟩ := R.tab x hx
  rw [z, h] at y; cases y
theorem Rel.tab_upd (R : Rel a w env hp σ H) (h : H p = none) : ∀ x ∈ a.cls.T, GxR.TabG (upd H p o) x := fun x hx => by
  obtain ⟨ps, y, t⟩ := R.tab x hx
  exact ⟨ps, by rw [upd_ne (R.tab_ne h hx)]; exact y, t⟩
/-- what is there and no table stays no table -/
theorem Rel.tab_not (R : Rel a w env hp σ H) {u : HO} (h : H p = some u) (n : ∀ ps, u ≠ .tbl ps) {x : Addr} (hx : x ∈ a.cls.T) : x ≠ p := fun z => by
  obtain ⟨ps, y, _⟩ := R.tab x hx
  rw [z, h] at y
  exact n ps (Option.some.inj y)
theorem Rel.tab_set (R : Rel a w env hp σ H) {u : HO} (h : H p = some u) (n : ∀ ps, u ≠ .tbl ps) : ∀ x ∈ a.cls.T, GxR.TabG (upd H p o) x := fun x hx => by
  obtain ⟨ps, y, t⟩ := R.tab x hx
  exact ⟨ps, by rw [upd_ne (R.tab_not h n hx)]; exact y, t⟩
theorem Rel.slot_ntab (R : Rel a w env hp σ H) {i : Nat} {s : SV} (e : env[i]? = some s) (h : isOwn s = true) (hq : σ[i]? = some (some (.ref p))) {x : Addr} (hx : x ∈ a.cls.T) : x ≠ p := by
  have q := R.slot i s e
  rw [hq] at q
  cases s with
  | no => cases h
  | val u => cases h
  | ol us => obtain ⟨p', h1, h2⟩ := q; cases h1; cases h2 with
    | lst h3 _ => exact R.tab_not h3 (fun ps z => nomatch z) hx
  | od t us => obtain ⟨p', h1, h2⟩ := q; cases h1; cases h2 with
    | dicK h3 _ => exact R.tab_not h3 (fun ps z => nomatch z) hx
    | dicT h3 _ => exact R.tab_not h3 (fun ps z => nomatch z) hx
theorem Rel.cell_ntab (R : Rel a w env hp σ H) (h : p ∈ w.ρ) {x : Addr} (hx : x ∈ a.cls.T) : x ≠ p := by
  obtain ⟨i, hi⟩ := List.mem_iff_getElem?.mp h
  have hl : i < hp.length := by rw [← R.clen]; exact (List.getElem?_eq_some_iff.mp hi).1
  intro z
  obtain ⟨ps, y, _⟩ := R.tab x hx
  rw [z] at y
  exact (R.cell i _ p (List.getElem?_eq_getElem hl) hi).ntab y
theorem tabG_at {H H' : Hp} {x : Addr} (e : H' x = H x) (h : GxR.TabG H x) : GxR.TabG H' x := let ⟨ps, y, t⟩ := h; ⟨ps, e.trans y, t⟩
/-- a table grows -/
theorem Rel.tabbed (R : Rel a w env hp σ H) {P : Addr} {H' : Hp} (hP : P ∈ a.cls.T) (t : GxR.Tabbed P H H') : Rel a w env hp σ H' ∧ Stp w H w H' := by
  have st : Stp w H w H' := ⟨fun _ h => h, fun _ _ h => h, fun x hx => t.2 x fun z => R.tabF P hP (z ▸ hx)⟩
  refine ⟨⟨R.len, fun i s e => (R.slot i s e).mono st fun ho q hq => t.2 q fun z => R.slot_ntab e ho hq hP z.symm, R.own, R.apart, R.clen, R.cnd, fun i u q hi hq => (R.cell i u q hi hq).mono st (t.2 q fun z => R.cell_ntab (List.mem_of_getElem? hq) hP z.symm), R.cellF, R.cell0, R.pre, fun x u hx hm ht => ?_, fun x hx => ?_, R.F0, R.Fpre, fun x hx => ?_, R.tabF⟩, st⟩
  · rw [t.2 x fun z => ht (z ▸ hP)]; exact R.frame x u hx hm ht
  · rw [st.H x hx]; exact R.frz x hx
  · by_cases z : x = P
    · rw [z]; exact t.1
    · exact tabG_at (t.2 x z) (R.tab x hx)
/-- one more frozen address -/
abbrev W.more (w : W) (p : Addr) : W := ⟨fun x => w.F x ∨ x = p, w.ρ⟩
theorem Stp.new (R : Rel a w env hp σ H) (h : H p = none) : Stp w H (w.more p) (upd H p o) :=
  ⟨fun _ h => .inl h, fun _ _ h => h, fun x hx => upd_ne fun z => R.frz x hx (by rw [z]; exact h)⟩
/-- a new frozen object -/
theorem Rel.new (R : Rel a w env hp σ H) (h : H p = none) : Rel a (w.more p) env hp σ (upd H p o) := by
  have st : Stp w H (w.more p) (upd H p o) := Stp.new R h
  have ne : ∀ {x : Addr}, H x ≠ none → x ≠ p := fun hx z => hx (by rw [z]; exact h)
  refine ⟨R.len, fun i s e => (R.slot i s e).mono st fun ho q hq => ?_, fun i s q e ho hq => ?_, R.apart, R.clen, R.cnd, fun i u q hi hq => ?_, fun i o q hi hq hz => ?_, R.cell0, R.pre, fun x u hx hm ht => ?_, fun x hx => ?_, fun x hx => ?_, fun x hx => .inl (R.Fpre x hx), fun x hx => ?_, fun x hx z => ?_⟩
  · obtain ⟨q', h1, h2⟩ := R.slot_there e ho
    rw [h1] at hq; cases hq
    exact upd_ne (ne h2)
  · obtain ⟨q', h1, h2⟩ := R.slot_there e ho
    rw [h1] at hq; cases hq
    obtain ⟨o1, o2, o3⟩ := R.own i s _ e ho h1
    exact ⟨fun z => z.elim o1 (ne h2), o2, o3⟩
  · exact (R.cell i u q hi hq).mono st (upd_ne (ne (R.cell_there (List.mem_of_getElem? hq))))
  · exact fun z => z.elim (R.cellF i o q hi hq hz) (ne (R.cell_there (List.mem_of_getElem? hq)))
  · rw [upd_ne (ne (by rw [R.frame x u hx hm ht]; exact fun z => nomatch z))]
    exact R.frame x u hx hm ht
  · rcases hx with hx | hx
    · rw [upd_ne (ne (R.frz x hx))]; exact R.frz x hx
    · rw [hx, upd_same]; exact fun z => nomatch z
  · rcases hx with hx | hx
    · exact R.F0 x hx
    · rw [hx]; exact .inr (.inl (.inl (R.fresh0 h)))
  · exact R.tab_upd h x hx
  · rcases z with z | z
    · exact R.tabF x hx z
    · exact R.tab_ne h hx z
end

/-! ### what an E term gives, as a HandS reading -/
/-- what is wanted of a value -/
def Out {α β : Type} (a : Act) (w : W) (σ : L2.St) (H : Hp) (s : S) (rel : W → Hp → α → β → Prop) (x : α) (Q : β → Hp → Prop) : Prop :=
  ∀ (w' : W) (H' : Hp) (y : β), Stp w H w' H' → Rel a w' s.env s.hp σ H' → rel w' H' x y → Q y H'
/-- what is wanted of an exception -/
def XOut (a : Act) (w : W) (H : Hp) (s : S) (c f : Str) (v : U) : Prop :=
  ∀ (w' : W) (H' : Hp) (d : Addr) (y : V) (σ' : L2.St), Stp w H w' H' → Rel a w' s.env s.hp σ' H' → RU a.K a.cls w' H' v y → H' d = some (.xd [(f, y)]) → a.E (.ref (a.cls c)) (some d) σ' H'
def Sat {α β : Type} (a : Act) (Φ : Phi) (w : W) (σ : L2.St) (H : Hp) (s : S) (m : M α) (rel : W → Hp → α → β → Prop) (Q : β → Hp → Prop) : Prop :=
  Rel a w s.env s.hp σ H ∧ match m Φ s with
    | none => False
    | some (.ok x s') => Out a w σ H s' rel x Q
    | some (.ex c f v s') => XOut a w H s' c f v
def TR {α β : Type} (a : Act) (Φ : Phi) (m : M α) (rel : W → Hp → α → β → Prop) : L2.St → Hp → (β → Hp → Prop) → Prop := fun σ H Q => ∃ w s, Sat a Φ w σ H s m rel Q

section
variable {α β γ δ : Type} {a : Act} {Φ : Phi} {w : W} {σ : L2.St} {H : Hp} {s : S}
theorem Out.step {w' : W} {H' : Hp} {rel : W → Hp → α → β → Prop} {x : α} {Q : β → Hp → Prop} (h : Out a w σ H s rel x Q) (st : Stp w H w' H') : Out a w' σ H' s rel x Q :=
  fun w2 H2 y st2 R r => h w2 H2 y (st.trans st2) R r
theorem XOut.step {w' : W} {H' : Hp} {c f : Str} {v : U} (h : XOut a w H s c f v) (st : Stp w H w' H') : XOut a w' H' s c f v :=
  fun w2 H2 d y s2 st2 R r q => h w2 H2 d y s2 (st.trans st2) R r q
/-- one after the other -/
theorem Sat.bnd {m : M α} {f : α → M γ} {r1 : W → Hp → α → β → Prop} {r2 : W → Hp → γ → δ → Prop} {Q : δ → Hp → Prop} (h : Sat a Φ w σ H s (EL.bnd m f) r2 Q) :
    Sat a Φ w σ H s m r1 (fun y H1 => ∃ (w1 : W) (x : α) (s1 : S), Stp w H w1 H1 ∧ r1 w1 H1 x y ∧ Sat a Φ w1 σ H1 s1 (f x) r2 Q) := by
  obtain ⟨R, h⟩ := h
  refine ⟨R, ?_⟩
  unfold EL.bnd at h
  cases e : m Φ s with
  | none => rw [e] at h; exact h.elim
  | some r =>
    rw [e] at h
    cases r with
    | ex c g v s' => exact h
    | ok x s' =>
      intro w1 H1 y st R1 rx
      refine ⟨w1, x, s', st, rx, R1, ?_⟩
      have h' : match f x Φ s' with
        | none => False
        | some (.ok z s2) => Out a w σ H s2 r2 z Q
        | some (.ex c g v s2) => XOut a w H s2 c g v := h
      cases e2 : f x Φ s' with
      | none => rw [e2] at h'; exact h'
      | some r2 =>
        rw [e2] at h'
        cases r2 with
        | ok z s2 => exact h'.step st
        | ex c g v s2 => exact h'.step st
theorem Sat.ofO {o : Option α} {rel : W → Hp → α → β → Prop} {Q : β → Hp → Prop} (h : Sat a Φ w σ H s (EL.ofO o) rel Q) : ∃ x, o = some x ∧ Out a w σ H s rel x Q := by
  obtain ⟨R, h⟩ := h
  unfold EL.ofO at h
  cases o with
  | none => exact h.elim
  | some x => exact ⟨x, rfl, h⟩
theorem Sat.ret {x : α} {rel : W → Hp → α → β → Prop} {Q : β → Hp → Prop} (h : Sat a Φ w σ H s (EL.ret x) rel Q) : Out a w σ H s rel x Q := h.2
theorem TR.bnd {m : M α} {f : α → M γ} {r1 : W → Hp → α → β → Prop} {r2 : W → Hp → γ → δ → Prop} {Q : δ → Hp → Prop} (h : TR a Φ (EL.bnd m f) r2 σ H Q) :
    TR a Φ m r1 σ H (fun y H1 => ∃ (w0 w1 : W) (H0 : Hp) (x : α) (s1 : S), Stp w0 H0 w1 H1 ∧ r1 w1 H1 x y ∧ Sat a Φ w1 σ H1 s1 (f x) r2 Q) := by
  obtain ⟨w, s, h⟩ := h
  refine ⟨w, s, ?_⟩
  have q := Sat.bnd (r1 := r1) h
  obtain ⟨R, q⟩ := q
  refine ⟨R, ?_⟩
  cases e : m Φ s with
  | none => rw [e] at q; exact q
  | some r =>
    rw [e] at q
    cases r with
    | ok x s' =>
      intro w1 H1 y st R1 rx
      obtain ⟨w2, x2, s2, st2, r2', h2⟩ := q w1 H1 y st R1 rx
      exact ⟨w, w2, H, x2, s2, st2, r2', h2⟩
    | ex c g v s' => exact q
end
end EL
set_option Elab.async false
set_option linter.all false
set_option maxRecDepth 100000
/-! EC1: operations on values. -/
namespace EL
open PySem L2
section
variable {a : Act} {w : W} {env : List SV} {hp : List EO} {σ : L2.St} {H : Hp}
abbrev relU (a : Act) : W → Hp → U → V → Prop := fun w H u v => RU a.K a.cls w H u v
abbrev relUs (a : Act) : W → Hp → List U → List V → Prop := fun w H u v => RUs a.K a.cls w H u v
theorem Out.now {α β : Type} {s : S} {rel : W → Hp → α → β → Prop} {x : α} {y : β} {Q : β → Hp → Prop} (q : Out a w σ H s rel x Q) (R : Rel a w s.env s.hp σ H) (r : rel w H x y) : Q y H := q w H y Stp.refl R r

theorem RUs.length {K : PySem.W.Frag} {cls : Cl} : ∀ {us : List U} {vs : List V}, RUs K cls w H us vs → us.length = vs.length
  | _, _, .nil => rfl
  | _, _, .cons _ t => by rw [List.length_cons, List.length_cons, RUs.length t]
theorem RUs.append {K : PySem.W.Frag} {cls : Cl} : ∀ {us us' : List U} {vs vs' : List V}, RUs K cls w H us vs → RUs K cls w H us' vs' → RUs K cls w H (us ++ us') (vs ++ vs')
  | _, _, _, _, .nil, h => h
  | _, _, _, _, .cons r t, h => .cons r (RUs.append t h)
theorem RUs.get {K : PySem.W.Frag} {cls : Cl} : ∀ {us : List U} {vs : List V} {i : Nat} {u : U}, RUs K cls w H us vs → us[i]? = some u → ∃ v, vs[i]? = some v ∧ RU K cls w H u v
  | _, _, _, _, .nil, e => by simp at e
  | _, _, 0, _, .cons r _, e => by simp at e; subst e; exact ⟨_, rfl, r⟩
  | _, _, i + 1, u, .cons _ t, e => by
    obtain ⟨v, h1, h2⟩ := RUs.get (i := i) (u := u) t (by simpa using e)
    exact ⟨v, by simpa using h1, h2⟩
theorem RUs.get' {K : PySem.W.Frag} {cls : Cl} : ∀ {us : List U} {vs : List V} {i : Nat} {v : V}, RUs K cls w H us vs → vs[i]? = some v → ∃ u, us[i]? = some u ∧ RU K cls w H u v
  | _, _, _, _, .nil, e => by simp at e
  | _, _, 0, _, .cons r _, e => by simp at e; subst e; exact ⟨_, rfl, r⟩
  | _, _, i + 1, u, .cons _ t, e => by
    obtain ⟨v, h1, h2⟩ := RUs.get' (i := i) (v := u) t (by simpa using e)
    exact ⟨v, by simpa using h1, h2⟩
theorem RUs.drop {K : PySem.W.Frag} {cls : Cl} : ∀ {us : List U} {vs : List V} (n : Nat), RUs K cls w H us vs → RUs K cls w H (us.drop n) (vs.drop n)
  | _, _, 0, r => r
  | _, _, _ + 1, .nil => .nil
  | _, _, n + 1, .cons _ t => RUs.drop n t
theorem RUs.take {K : PySem.W.Frag} {cls : Cl} : ∀ {us : List U} {vs : List V} (n : Nat), RUs K cls w H us vs → RUs K cls w H (us.take n) (vs.take n)
  | _, _, 0, _ => .nil
  | _, _, _ + 1, .nil => .nil
  | _, _, n + 1, .cons r t => .cons r (RUs.take n t)
theorem RUs.set {K : PySem.W.Frag} {cls : Cl} {u : U} {v : V} (r : RU K cls w H u v) : ∀ {us : List U} {vs : List V} (i : Nat), RUs K cls w H us vs → RUs K cls w H (us.set i u) (vs.set i v)
  | _, _, _, .nil => .nil
  | _, _, 0, .cons _ t => .cons r t
  | _, _, i + 1, .cons q t => .cons q (RUs.set r i t)
theorem RUs.reverse {K : PySem.W.Frag} {cls : Cl} : ∀ {us : List U} {vs : List V}, RUs K cls w H us vs → RUs K cls w H us.reverse vs.reverse
  | _, _, .nil => .nil
  | _, _, .cons q t => by rw [List.reverse_cons, List.reverse_cons]; exact (RUs.reverse t).append (.cons q .nil)
theorem RUs.dropLast {K : PySem.W.Frag} {cls : Cl} {us : List U} {vs : List V} (h : RUs K cls w H us vs) : RUs K cls w H us.dropLast vs.dropLast := by
  rw [List.dropLast_eq_take, List.dropLast_eq_take, h.length]; exact h.take _
theorem RUs.ints {K : PySem.W.Frag} {cls : Cl} : ∀ {ns : List Int} {vs : List V}, RUs K cls w H (ns.map U.int) vs → vs = ns.map V.int
  | [], _, .nil => rfl
  | n :: ns, _, .cons r t => by cases r; rw [RUs.ints t]; rfl
theorem RUs.of_ints {K : PySem.W.Frag} {cls : Cl} : ∀ (ns : List Int), RUs K cls w H (ns.map U.int) (ns.map V.int)
  | [] => .nil
  | n :: ns => .cons (.int n) (RUs.of_ints ns)

/-! ### data -/
mutual
theorem RU.dp {K : PySem.W.Frag} {cls : Cl} : ∀ {u : U} {v : V} {d : PyData}, RU K cls w H u v → toD u = some d → Dp K H v d
  | _, _, _, .non, e => by cases (Option.some.inj (show some PyData.none = some _ from e)); exact .non
  | _, _, _, .bl b, e => by cases (Option.some.inj (show some (PyData.bool b) = some _ from e)); exact .bl b
  | _, _, _, .int i, e => by cases (Option.some.inj (show some (PyData.int i) = some _ from e)); exact .int i
  | _, _, _, .str x, e => by cases (Option.some.inj (show some (PyData.str x) = some _ from e)); exact .str x
  | .tup us, _, _, .tup f h r, e => by
    simp only [toD] at e
    cases q : toDs us with
    | none => rw [q] at e; cases e
    | some ds => rw [q] at e; cases e; exact .tup (SqT.of h) (RUs.dp r q)
  | .lst us, _, _, .lst f h r, e => by
    simp only [toD] at e
    cases q : toDs us with
    | none => rw [q] at e; cases e
    | some ds => rw [q] at e; cases e; exact .lst (SqL.of h) (RUs.dp r q)
  | _, _, _, .dicK _ _ _, e => by simp [toD] at e
  | _, _, _, .dicT _ _ _, e => by simp [toD] at e
  | _, _, _, .obj _ _ _ _, e => by simp [toD] at e
  | _, _, _, .ref _, e => by simp [toD] at e
  | _, _, _, .scr _ _, e => by simp [toD] at e
  | _, _, _, .scrK _, e => by simp [toD] at e
theorem RUs.dp {K : PySem.W.Frag} {cls : Cl} : ∀ {us : List U} {vs : List V} {ds : List PyData}, RUs K cls w H us vs → toDs us = some ds → DpAll K H vs ds
  | _, _, _, .nil, e => by cases (Option.some.inj (show some ([] : List PyData) = some _ from e)); exact .nil
  | u :: us, _, _, .cons r t, e => by
    simp only [toDs] at e
    cases q1 : toD u with
    | none => rw [q1] at e; cases e
    | some d =>
      cases q2 : toDs us with
      | none => rw [q1, q2] at e; cases e
      | some ds => rw [q1, q2] at e; cases e; exact .cons (RU.dp r q1) (RUs.dp t q2)
end
theorem toS_some {u : U} {d : PyData} (h : toS u = some d) : toD u = some d ∧ SeqAt.shaped d = true := by
  unfold toS at h
  cases e : toD u with
  | none => rw [e] at h; cases h
  | some d' =>
    rw [e] at h
    by_cases q : SeqAt.shaped d' = true
    · simp only [q, if_true] at h; cases h; exact ⟨rfl, q⟩
    · simp only [q] at h; cases h

/-! ### operators -/
def opOf : BOp → Operator
  | .add => .Add | .sub => .Sub | .mul => .Mult | .fdiv => .FloorDiv | .mod => .Mod | .shl => .LShift | .band => .BitAnd | .bor => .BitOr
def rStrAdd : R2 := fun x y H Q => ∃ i j, x = .str i ∧ y = .str j ∧ i.length + j.length ≤ sizeLine ∧ Q (.str (i ++ j)) H
def rBop (K : PySem.W.Frag) : BOp → R2
  | .add => fun x y H Q => rI0 (fun i j => .int (i + j)) x y H Q ∨ rCat x y H Q ∨ rCatA K x y H Q ∨ rStrAdd x y H Q
  | .sub => rI0 fun i j => .int (i - j)
  | .mul => rI CMul fun i j => .int (i * j)
  | .fdiv => rI CDivN fun i j => .int (i.fdiv j)
  | .mod => rI (fun _ j => j ≠ 0) fun i j => .int (i.fmod j)
  | .shl => rI CPow fun i j => .int (i * 2 ^ j.toNat)
  | .band => rI0 fun i j => .int (Builtin.bitAnd i j)
  | .bor => rI0 fun i j => .int (Builtin.bitOr i j)
theorem OpR.or {X : Cx} {f : Value → Value → Sem Value} {r r' : R2} (h : OpR X f r) (h' : OpR X f r') : OpR X f (fun x y H Q => r x y H Q ∨ r' x y H Q) := by
  intro pins s σ H x y v u Q I rx ry q
  rcases q with q | q
  · exact h pins s σ H x y v u Q I rx ry q
  · exact h' pins s σ H x y v u Q I rx ry q
theorem op_bop {X : Cx} (o : BOp) : OpR X (binaryOp (opOf o)) (rBop X.K o) := by
  cases o with
  | add => exact op_add.or (op_cat.or (op_catA.or op_add_str))
  | sub => exact op_sub
  | mul => exact op_mul
  | fdiv => exact op_fdivN
  | mod => exact op_modN
  | shl => exact op_shl
  | band => exact op_and
  | bor => exact op_or
theorem line_eq : EL.line = sizeLine := rfl
theorem bInt_spec {c : Int → Int → Bool} {C : Int → Int → Prop} {g : Int → Int → Int} (hc : ∀ i j, c i j = true → C i j) {u v z : U} {x y : V} {s : S} {Q : VK} (R : Rel a w s.env s.hp σ H) (rx : RU a.K a.cls w H u x) (ry : RU a.K a.cls w H v y)
    (e : bInt c g u v = some z) (q : Out a w σ H s (relU a) z Q) : rI C (fun i j => .int (g i j)) x y H Q := by
  unfold bInt at e
  split at e
  · rename_i i j
    by_cases h : c i j = true
    · rw [if_pos h] at e; cases e
      cases rx; cases ry
      exact ⟨i, j, rfl, rfl, hc i j h, q.now R (.int _)⟩
    · rw [if_neg h] at e; cases e
  · cases e
theorem bAdd_spec {u v z : U} {x y : V} {s : S} {Q : VK} (R : Rel a w s.env s.hp σ H) (rx : RU a.K a.cls w H u x) (ry : RU a.K a.cls w H v y) (e : bAdd u v = some z) (q : Out a w σ H s (relU a) z Q) : rBop a.K .add x y H Q := by
  unfold bAdd at e
  split at e
  · rename_i i j
    cases rx; cases ry; cases e
    exact .inl ⟨i, j, rfl, rfl, q.now R (.int _)⟩
  · rename_i xs ys
    by_cases hl : xs.length + ys.length ≤ line
    · rw [if_pos hl] at e; cases e
      cases rx with
      | lst f1 h1 r1 =>
        cases ry with
        | lst f2 h2 r2 =>
          refine .inr (.inl ⟨_, _, _, _, rfl, rfl, h1, h2, by rw [← r1.length, ← r2.length]; exact hl, fun p hp => ?_⟩)
          exact q (w.more p) _ _ (Stp.new R hp) (R.new hp) (.lst (.inr rfl) upd_same ((r1.append r2).mono (Stp.new R hp)))
    · rw [if_neg hl] at e; cases e
  · rename_i xs ys
    by_cases hl : xs.length + ys.length ≤ line
    · rw [if_pos hl] at e; cases e
      cases rx with
      | tup f1 h1 r1 =>
        cases ry with
        | tup f2 h2 r2 =>
          refine .inr (.inr (.inl ⟨_, _, _, _, rfl, rfl, SqT.of h1, SqT.of h2, by rw [← r1.length, ← r2.length]; exact hl, fun ex => ?_, fun _ ey => ?_, fun _ _ p hp => ?_⟩))
          · subst ex; cases r1; exact q.now R (.tup f2 h2 r2)
          · subst ey; cases r2; rw [List.append_nil] at q; exact q.now R (.tup f1 h1 r1)
          · exact q (w.more p) _ _ (Stp.new R hp) (R.new hp) (.tup (.inr rfl) upd_same ((r1.append r2).mono (Stp.new R hp)))
    · rw [if_neg hl] at e; cases e
  · rename_i i j
    by_cases hl : i.length + j.length ≤ line
    · rw [if_pos hl] at e; cases e
      cases rx; cases ry
      exact .inr (.inr (.inr ⟨i, j, rfl, rfl, hl, q.now R (.str _)⟩))
    · rw [if_neg hl] at e; cases e
  · cases e
theorem rI_I0 {g : Int → Int → V} {x y : V} {Q : VK} (h : rI (fun _ _ => True) g x y H Q) : rI0 g x y H Q := by
  obtain ⟨i, j, e1, e2, _, q⟩ := h
  exact ⟨i, j, e1, e2, q⟩
theorem bop_spec {o : BOp} {u v z : U} {x y : V} {s : S} {Q : VK} (R : Rel a w s.env s.hp σ H) (rx : RU a.K a.cls w H u x) (ry : RU a.K a.cls w H v y) (e : bop o u v = some z) (q : Out a w σ H s (relU a) z Q) : rBop a.K o x y H Q := by
  cases o with
  | add => exact bAdd_spec R rx ry e q
  | sub => exact rI_I0 (bInt_spec (fun _ _ _ => trivial) R rx ry e q)
  | mul => exact bInt_spec (C := CMul) (fun i j h => of_decide_eq_true (p := _ ∧ _ ∨ _ ∧ _) h) R rx ry e q
  | fdiv => exact bInt_spec (C := CDivN) (fun i j h => of_decide_eq_true (p := _ ∧ _) h) R rx ry e q
  | mod => exact bInt_spec (C := fun _ j => j ≠ 0) (fun i j h => of_decide_eq_true h) R rx ry e q
  | shl => exact bInt_spec (C := CPow) (fun i j h => of_decide_eq_true (p := _ ∧ _ ∧ _) h) R rx ry e q
  | band => exact rI_I0 (bInt_spec (fun _ _ _ => trivial) R rx ry e q)
  | bor => exact rI_I0 (bInt_spec (fun _ _ _ => trivial) R rx ry e q)

/-! ### comparisons -/
def copOf : COp → CmpOp
  | .eq => .Eq | .ne => .NotEq | .lt => .Lt | .le => .LtE | .gt => .Gt | .ge => .GtE | .isN => .Is | .notN => .IsNot
def rLtD (K : PySem.W.Frag) : R2 := fun x y H Q => ∃ d e, Dp K H x d ∧ Dp K H y e ∧ SeqAt.shaped d = true ∧ PySem.W.alike d e = true ∧ d ≠ .none ∧ Q (.bl (PySem.W.dataLt d e)) H
theorem op_ltD {X : Cx} (hu : X.A.units + 64 < cLine) : OpR X (compareOp .Lt) (rLtD X.K) := by
  intro pins s σ H x y v u Q I rx ry h
  obtain ⟨d, e, hd, he, sd, al, nn, q⟩ := h
  obtain ⟨as, r1⟩ := Dp.reads I d x v hd rx
  obtain ⟨bs, r2⟩ := Dp.reads I e y u he ry
  exact PySem.W.rcLt_alike d e X.A s v u as bs r1 r2 al nn (SeqAt.room_of_shaped sd hu) X.prog X.w X.xe _ ⟨.bl _, H, I, rfl, q⟩
def rCop (K : PySem.W.Frag) : COp → R2
  | .eq => rEqD K
  | .ne => rNeD K
  | .lt => fun x y H Q => rI0 (fun i j => .bl (decide (i < j))) x y H Q ∨ rLtD K x y H Q
  | .le => rI0 fun i j => .bl (decide (i ≤ j))
  | .gt => rI0 fun i j => .bl (decide (j < i))
  | .ge => rI0 fun i j => .bl (decide (j ≤ i))
  | .isN => fun x y H Q => y = .non ∧ Q (.bl (decide (x = .non))) H
  | .notN => fun x y H Q => y = .non ∧ Q (.bl (!decide (x = .non))) H
theorem op_cop {X : Cx} (hu : X.A.units + 64 < cLine) (o : COp) : OpR X (compareOp (copOf o)) (rCop X.K o) := by
  cases o with
  | eq => exact op_eqD hu
  | ne => exact op_neD hu
  | lt => exact op_lt.or (op_ltD hu)
  | le => exact op_le
  | gt => exact op_gt
  | ge => exact op_ge
  | isN => exact op_isN
  | notN => exact op_notN
theorem eqU_spec {u v : U} {x y : V} {b : Bool} (rx : RU a.K a.cls w H u x) (ry : RU a.K a.cls w H v y) (e : eqU u v = some b) : ∃ d e, Dp a.K H x d ∧ Dp a.K H y e ∧ SeqAt.shaped d = true ∧ SeqAt.shaped e = true ∧ b = PyData.eqv d e := by
  unfold eqU at e
  split at e
  · rename_i d d' h1 h2
    cases e
    exact ⟨d, d', rx.dp (toS_some h1).1, ry.dp (toS_some h2).1, (toS_some h1).2, (toS_some h2).2, rfl⟩
  · cases e
theorem isNon_spec {u : U} {x : V} (rx : RU a.K a.cls w H u x) : decide (x = .non) = isNon u := by
  cases rx <;> rfl
theorem cInt_spec {g : Int → Int → Bool} {u v : U} {b : Bool} {x y : V} {Q : VK} (rx : RU a.K a.cls w H u x) (ry : RU a.K a.cls w H v y) (e : cInt g u v = some b) (q : Q (.bl b) H) : rI0 (fun i j => .bl (g i j)) x y H Q := by
  unfold cInt at e
  split at e
  · cases rx; cases ry; cases e
    exact ⟨_, _, rfl, rfl, q⟩
  · cases e
theorem ltU_spec {u v : U} {b : Bool} {x y : V} {Q : VK} (rx : RU a.K a.cls w H u x) (ry : RU a.K a.cls w H v y) (e : ltU u v = some b) (q : Q (.bl b) H) : rCop a.K .lt x y H Q := by
  unfold ltU at e
  split at e
  · cases rx; cases ry; cases e
    exact .inl ⟨_, _, rfl, rfl, q⟩
  · unfold ltD at e
    split at e
    · rename_i d d' h1 h2
      by_cases hc : (PySem.W.alike d d' && notNone d) = true
      · rw [if_pos hc] at e
        cases e
        rw [Bool.and_eq_true] at hc
        refine .inr ⟨d, d', rx.dp (toS_some h1).1, ry.dp (toS_some h2).1, (toS_some h1).2, hc.1, fun z => ?_, q⟩
        rw [z] at hc; exact absurd hc.2 (by simp [notNone])
      · rw [if_neg hc] at e; cases e
    · cases e
theorem cNon_spec {neg : Bool} {u v : U} {b : Bool} {x y : V} (rx : RU a.K a.cls w H u x) (ry : RU a.K a.cls w H v y) (e : cNon neg u v = some b) : y = .non ∧ b = (if neg = true then !decide (x = .non) else decide (x = .non)) := by
  unfold cNon at e
  split at e
  · cases ry; cases e
    rw [isNon_spec rx]
    exact ⟨rfl, rfl⟩
  · cases e
theorem cop_spec {o : COp} {u v : U} {b : Bool} {x y : V} {Q : VK} (rx : RU a.K a.cls w H u x) (ry : RU a.K a.cls w H v y) (e : cop o u v = some b) (q : Q (.bl b) H) : rCop a.K o x y H Q := by
  cases o with
  | eq =>
    obtain ⟨d, d', h1, h2, h3, h4, rfl⟩ := eqU_spec rx ry e
    exact ⟨d, d', h1, h2, h3, h4, q⟩
  | ne =>
    have e' : (eqU u v).map (!·) = some b := e
    cases h : eqU u v with
    | none => rw [h] at e'; cases e'
    | some c =>
      rw [h] at e'; cases e'
      obtain ⟨d, d', h1, h2, h3, h4, rfl⟩ := eqU_spec rx ry h
      exact ⟨d, d', h1, h2, h3, h4, q⟩
  | lt => exact ltU_spec rx ry e q
  | le => exact cInt_spec rx ry e q
  | gt => exact cInt_spec rx ry e q
  | ge => exact cInt_spec rx ry e q
  | isN => obtain ⟨h1, rfl⟩ := cNon_spec rx ry e; exact ⟨h1, q⟩
  | notN => obtain ⟨h1, rfl⟩ := cNon_spec rx ry e; exact ⟨h1, q⟩
end
end EL
set_option Elab.async false
set_option linter.all false
set_option maxRecDepth 100000
/-! EC2: handles, keys, what is looked at. -/
namespace EL
open PySem PySem.Spec PyProof.Rows L2
section
variable {a : Act} {w : W} {σ : L2.St} {H : Hp} {s : S}
def HdOk (a : Act) (σ : L2.St) (w : W) (H : Hp) : Hd → V → Prop
  | .sl i, v => σ[i]? = some (some v)
  | .u u, v => RU a.K a.cls w H u v
theorem HdOk.mono {w' : W} {H' : Hp} (st : Stp w H w' H') {h : Hd} {v : V} (q : HdOk a σ w H h v) : HdOk a σ w' H' h v := by
  cases h with
  | sl i => exact q
  | u u => exact RU.mono st q
def SqB (K : PySem.W.Frag) (H : Hp) (p : Addr) (vs : List V) : Bool → Prop
  | true => SqT K H p vs
  | false => SqL K H p vs
theorem SqB.or {K : PySem.W.Frag} {p : Addr} {vs : List V} {t : Bool} (h : SqB K H p vs t) : SqL K H p vs ∨ SqT K H p vs := by
  cases t with
  | true => exact .inr h
  | false => exact .inl h
theorem seq_spec (R : Rel a w s.env s.hp σ H) {h : Hd} {v : V} {t : Bool} {us : List U} (q : HdOk a σ w H h v) (e : seqOf s h = some (t, us)) : ∃ p vs, v = .ref p ∧ RUs a.K a.cls w H us vs ∧ SqB a.K H p vs t := by
  cases h with
  | sl i =>
    simp only [seqOf] at e
    split at e
    · rename_i us' he
      cases e
      obtain ⟨p, h1, h2⟩ := R.slot i _ he
      have hv : σ[i]? = some (some v) := q
      rw [h1] at hv; cases hv
      cases h2 with
      | lst h3 r => exact ⟨p, _, rfl, r, SqL.of h3⟩
    · cases e
  | u u =>
    have q' : RU a.K a.cls w H u v := q
    cases u with
    | lst xs => cases e; cases q' with | lst f h r => exact ⟨_, _, rfl, r, SqL.of h⟩
    | tup xs => cases e; cases q' with | tup f h r => exact ⟨_, _, rfl, r, SqT.of h⟩
    | scr ns =>
      cases e
      cases q' with
      | scr f h => exact ⟨_, _, rfl, RUs.of_ints ns, .inl h⟩
      | scrK h => exact ⟨_, _, rfl, RUs.of_ints ns, h H⟩
    | ref i =>
      simp only [seqOf] at e
      split at e
      · rename_i us' he
        cases e
        cases q' with
        | ref hr =>
          have c := R.cell i _ _ he hr
          cases c with
          | lst h3 r => exact ⟨_, _, rfl, r, SqL.of h3⟩
      · cases e
    | non => cases e
    | bl b => cases e
    | int i => cases e
    | str x => cases e
    | dic t k => cases e
    | obj c f => cases e
/-- what a dict's address holds -/
inductive DcB (K : PySem.W.Frag) (cls : Cl) (w : W) (H : Hp) (p : Addr) : Bool → List (U × U) → Prop
  | k {us : List (U × U)} {ks : List (L2.Key × V)} : Rd H p (.dK ks) → RKs K cls w H us ks → DcB K cls w H p false us
  | t {us : List (U × U)} {ks : List (List L2.Key × V)} : Rd H p (.dT ks) → RTs K cls w H us ks → DcB K cls w H p true us
theorem dic_spec (R : Rel a w s.env s.hp σ H) {h : Hd} {v : V} {t : Bool} {us : List (U × U)} (q : HdOk a σ w H h v) (e : dicOf s h = some (t, us)) : ∃ p, v = .ref p ∧ DcB a.K a.cls w H p t us := by
  cases h with
  | sl i =>
    simp only [dicOf] at e
    split at e
    · rename_i t' us' he
      cases e
      obtain ⟨p, h1, h2⟩ := R.slot i _ he
      have hv : σ[i]? = some (some v) := q
      rw [h1] at hv; cases hv
      cases h2 with
      | dicK h3 r => exact ⟨p, rfl, .k (.inl h3) r⟩
      | dicT h3 r => exact ⟨p, rfl, .t (.inl h3) r⟩
    · cases e
  | u u =>
    have q' : RU a.K a.cls w H u v := q
    cases u with
    | dic t k =>
      cases e
      cases q' with
      | dicK f h r => exact ⟨_, rfl, .k (.inr ⟨_, h⟩) r⟩
      | dicT f h r => exact ⟨_, rfl, .t (.inr ⟨_, h⟩) r⟩
    | ref i =>
      simp only [dicOf] at e
      split at e
      · rename_i t' us' he
        cases e
        cases q' with
        | ref hr =>
          have c := R.cell i _ _ he hr
          cases c with
          | dicK h3 r => exact ⟨_, rfl, .k (.inl h3) r⟩
          | dicT h3 r => exact ⟨_, rfl, .t (.inl h3) r⟩
      · rename_i t' us' he
        cases e
        cases q' with
        | ref hr =>
          have c := R.cell i _ _ he hr
          cases c with
          | fK f h3 r => exact ⟨_, rfl, .k (.inr ⟨_, h3⟩) r⟩
          | fT f h3 r => exact ⟨_, rfl, .t (.inr ⟨_, h3⟩) r⟩
      · cases e
    | non => cases e
    | bl b => cases e
    | int i => cases e
    | str x => cases e
    | lst x => cases e
    | tup x => cases e
    | obj c f => cases e
    | scr ns => cases e

/-! ### keys -/
theorem toK_kU (k : L2.Key) : toK (kU k) = some k := by cases k <;> rfl
theorem toKs_kU : ∀ ks : List L2.Key, toKs (ks.map kU) = some ks
  | [] => rfl
  | k :: ks => by simp only [List.map_cons, toKs, toK_kU, toKs_kU ks]
theorem toK_some {K : PySem.W.Frag} {cls : Cl} {u : U} {v : V} {k : L2.Key} (r : RU K cls w H u v) (e : toK u = some k) : v = kV k ∧ u = kU k := by
  cases r <;> simp only [toK] at e <;> first | (cases e; done) | (cases e; exact ⟨rfl, rfl⟩)
theorem toKs_some {K : PySem.W.Frag} {cls : Cl} : ∀ {us : List U} {vs : List V} {ks : List L2.Key}, RUs K cls w H us vs → toKs us = some ks → vs = ks.map kV ∧ us = ks.map kU
  | _, _, _, .nil, e => by cases e; exact ⟨rfl, rfl⟩
  | u :: us, v :: vs, ks, .cons r t, e => by
    simp only [toKs] at e
    cases h1 : toK u with
    | none => rw [h1] at e; cases e
    | some k =>
      cases h2 : toKs us with
      | none => rw [h1, h2] at e; cases e
      | some ks' =>
        rw [h1, h2] at e; cases e
        obtain ⟨a1, a2⟩ := toK_some r h1
        obtain ⟨b1, b2⟩ := toKs_some t h2
        exact ⟨by rw [a1, b1]; rfl, by rw [a2, b2]; rfl⟩
theorem toKT_some {K : PySem.W.Frag} {cls : Cl} {u : U} {v : V} {k : List L2.Key} (r : RU K cls w H u v) (e : toKT u = some k) : ∃ b, v = .ref b ∧ H b = some (.tup (k.map kV)) ∧ u = .tup (k.map kU) := by
  cases r <;> simp only [toKT] at e <;> (try (cases e; done))
  rename_i f h q
  obtain ⟨b1, b2⟩ := toKs_some q e
  exact ⟨_, rfl, by rw [← b1]; exact h, by rw [b2]⟩

def OptRel (K : PySem.W.Frag) (cls : Cl) (w : W) (H : Hp) : Option U → Option V → Prop
  | some u, some v => RU K cls w H u v
  | none, none => True
  | _, _ => False
theorem RKs.val {K : PySem.W.Frag} {cls : Cl} (k : L2.Key) : ∀ {us : List (U × U)} {ks : List (L2.Key × V)}, RKs K cls w H us ks →
    OptRel K cls w H ((us.find? fun e => decide (toK e.1 = some k)).map (·.2)) (valV ks k)
  | _, _, .nil => trivial
  | _, _, .cons (k := k') (us := us) (vs := vs) (u := u) (v := v) r t => by
    by_cases e : k' = k
    · subst e
      rw [valV_pos (by rfl), List.find?_cons_of_pos (by simp [toK_kU])]
      exact r
    · rw [valV_neg (by exact e), List.find?_cons_of_neg (by simp [toK_kU]; exact e)]
      exact RKs.val k t
theorem RTs.val {K : PySem.W.Frag} {cls : Cl} (k : List L2.Key) : ∀ {us : List (U × U)} {ks : List (List L2.Key × V)}, RTs K cls w H us ks →
    OptRel K cls w H ((us.find? fun e => decide (toKT e.1 = some k)).map (·.2)) (valV ks k)
  | _, _, .nil => trivial
  | _, _, .cons (k := k') (us := us) (vs := vs) (u := u) (v := v) r t => by
    by_cases e : k' = k
    · subst e
      rw [valV_pos (by rfl), List.find?_cons_of_pos (by simp [toKT, toKs_kU])]
      exact r
    · rw [valV_neg (by exact e), List.find?_cons_of_neg (by simp [toKT, toKs_kU]; exact e)]
      exact RTs.val k t
theorem RKs.length {K : PySem.W.Frag} {cls : Cl} : ∀ {us : List (U × U)} {ks : List (L2.Key × V)}, RKs K cls w H us ks → us.length = ks.length
  | _, _, .nil => rfl
  | _, _, .cons _ t => by rw [List.length_cons, List.length_cons, RKs.length t]
theorem RTs.length {K : PySem.W.Frag} {cls : Cl} : ∀ {us : List (U × U)} {ks : List (List L2.Key × V)}, RTs K cls w H us ks → us.length = ks.length
  | _, _, .nil => rfl
  | _, _, .cons _ t => by rw [List.length_cons, List.length_cons, RTs.length t]
/-- a look-up in E is one in the abstract heap -/
theorem look_spec {p : Addr} {t : Bool} {kvs : List (U × U)} {k : U} {y : V} {o : Option U} (d : DcB a.K a.cls w H p t kvs) (ry : RU a.K a.cls w H k y) (e : look t kvs k = some o) :
    ∃ r, DGet H p y r ∧ OptRel a.K a.cls w H o r := by
  cases d with
  | k h r =>
    simp only [look] at e
    cases q : toK k with
    | none => rw [q] at e; cases e
    | some kk =>
      rw [q] at e; cases e
      obtain ⟨rfl, rfl⟩ := toK_some ry q
      exact ⟨_, .inl ⟨_, kk, h, rfl, rfl⟩, r.val kk⟩
  | t h r =>
    simp only [look] at e
    cases q : toKT k with
    | none => rw [q] at e; cases e
    | some kk =>
      rw [q] at e; cases e
      obtain ⟨b, rfl, hb, rfl⟩ := toKT_some ry q
      exact ⟨_, .inr ⟨_, kk, b, h, rfl, hb, rfl⟩, r.val kk⟩

/-! ### items, in, len -/
theorem atI_spec {K : PySem.W.Frag} {cls : Cl} {us : List U} {vs : List V} {i : Int} {u : U} (r : RUs K cls w H us vs) (e : L2.atI us i = some u) : ∃ v, L2.atI vs i = some v ∧ RU K cls w H u v := by
  unfold L2.atI at e ⊢
  rw [← r.length]
  cases h : L2.ixN us.length i with
  | none => rw [h] at e; cases e
  | some j => rw [h] at e; exact r.get e
def rDGet : R2 := fun x y H Q => ∃ p v, x = .ref p ∧ DGet H p y (some v) ∧ Q v H
theorem ix_dict {X : Cx} (hu : X.A.units + 1 < cLine) : IxR X rDGet := by
  intro value slice pins s σ H x y v u Q I rx ry h hs
  obtain ⟨p, z, rfl, g, q⟩ := h
  cases rx
  have hT := dict_typeIs I g
  have h2 := d_getItem (Q := EP X pins σ Q) (E := X.xe) (A := X.A) hu I g ry fun w' s3 I3 rw' => ⟨z, H, I3, rw', q⟩
  unfold subscriptTail
  refine wpAny_bind ?_
  rw [getitemInPython_of_ne hT.not_modules]
  refine wpAny_bind (wpAny_specialOf hT PySem.F.slot_dict_getitem.lookup ?_)
  have fin : wpAny (model X.prog X.w) X.A (subscripted slice false (Value.ref p) u) (fun r s₃ => wpAny (model X.prog X.w) X.A (letTemporaryGo value (Value.ref p) r >>= fun _ => pure r) (EP X pins σ Q) X.xe s₃) X.xe s := by
    rw [hs]
    exact wpAny_operating (wpAny_mono h2 (fun r s₃ h₃ => wpAny_bind (wpAny_letTemporaryGo (wpAny_pure h₃))) fun _ _ x => x)
  first
    | exact wpAny_pure (wpAny_bind fin)
    | exact wpAny_bind (wpAny_pure (wpAny_bind fin))
    | exact wpAny_bind fin
def rGet (K : PySem.W.Frag) : R2 := fun x y H Q => rIxL K x y H Q ∨ rIxT K x y H Q ∨ rDGet x y H Q
theorem ix_get {X : Cx} (hu : X.A.units + 1 < cLine) : IxR X (rGet X.K) := IxR.or ix_list (IxR.or ix_tup (ix_dict hu))
theorem get_spec (R : Rel a w s.env s.hp σ H) {h : Hd} {i z : U} {x y : V} {Q : VK} (q : HdOk a σ w H h x) (ry : RU a.K a.cls w H i y) (e : getU s h i = some z) (k : ∀ v, RU a.K a.cls w H z v → Q v H) : rGet a.K x y H Q := by
  unfold getU at e
  split at e
  · rename_i t us e1
    obtain ⟨p, vs, rfl, r, hs⟩ := seq_spec R q e1
    split at e
    · cases ry
      obtain ⟨v, h1, h2⟩ := atI_spec r e
      cases t with
      | true => exact .inr (.inl ⟨p, vs, _, v, rfl, rfl, hs, h1, k v h2⟩)
      | false => exact .inl ⟨p, vs, _, v, rfl, rfl, hs, h1, k v h2⟩
    · cases e
  · split at e
    · rename_i t kvs e2
      obtain ⟨p, rfl, d⟩ := dic_spec R q e2
      split at e
      · rename_i v e3
        cases e
        obtain ⟨r, g, m⟩ := look_spec d ry e3
        cases r with
        | none => exact m.elim
        | some r => exact .inr (.inr ⟨p, r, rfl, g, k r m⟩)
      · cases e
    · cases e

def rInQ (K : PySem.W.Frag) (neg : Bool) : R2 := fun x y H Q => ∃ p xs d ds, y = .ref p ∧ (SqL K H p xs ∨ SqT K H p xs) ∧ Dp K H x d ∧ DpAll K H xs ds ∧ SeqAt.shaped d = true ∧ PyData.canLayAll0 ds = true ∧
  Q (.bl (if neg = true then !ds.any (fun z => PyData.eqv z d) else ds.any fun z => PyData.eqv z d)) H
theorem any_read {h : Heap} {d : PyData} : ∀ {vs : List Value} {ds : List PyData} {as : List Addr}, ReadsAll h vs ds as → PyData.canLayAll0 ds = true → (vs.any fun y => PyData.eqv (SeqAt.readOf h y) d) = ds.any fun z => PyData.eqv z d := by
  intro vs ds as r c
  rw [← SeqAt.readsAll_map ds vs as c r, List.any_map]
  rfl
theorem op_inQ {X : Cx} (hu : X.A.units + 65 < cLine) : OpR X (compareOp .In) (rInQ X.K false) := by
  intro pins s σ H x y v u Q I rx ry h
  obtain ⟨p, xs, d, ds, rfl, hq, hd, hds, sd, cl, q⟩ := h
  cases ry
  obtain ⟨as, r1⟩ := Dp.reads I d x v hd rx
  rcases hq with hq | hq
  · obtain ⟨its, r, pl, hz⟩ := I.list hq
    obtain ⟨bs, r2⟩ := Dp.readsAll I ds _ its hds r
    have hr : ReadsAll s.heap its.toArray.toList ds bs := r2
    refine SeqAt.in_listAt (fun z => PyData.eqv (SeqAt.readOf s.heap z) d) pl.isList (SeqAt.items_eqAt hr r1 cl (SeqAt.canLay_of_shaped sd) (room_in_shaped sd hu)) ⟨.bl _, H, I, rfl, ?_⟩
    rw [show (its.toArray.any fun z => PyData.eqv (SeqAt.readOf s.heap z) d) = its.any fun z => PyData.eqv (SeqAt.readOf s.heap z) d by simp, any_read r2 cl]
    exact q
  · obtain ⟨its, r, pl, hz⟩ := I.tuple hq
    obtain ⟨bs, r2⟩ := Dp.readsAll I ds _ its hds r
    have hr : ReadsAll s.heap its.toArray.toList ds bs := r2
    refine SeqAt.in_tupleAt (fun z => PyData.eqv (SeqAt.readOf s.heap z) d) pl (SeqAt.items_eqAt hr r1 cl (SeqAt.canLay_of_shaped sd) (room_in_shaped sd hu)) ⟨.bl _, H, I, rfl, ?_⟩
    rw [show (its.toArray.any fun z => PyData.eqv (SeqAt.readOf s.heap z) d) = its.any fun z => PyData.eqv (SeqAt.readOf s.heap z) d by simp, any_read r2 cl]
    exact q
theorem op_notInQ {X : Cx} (hu : X.A.units + 65 < cLine) : OpR X (compareOp .NotIn) (rInQ X.K true) := by
  intro pins s σ H x y v u Q I rx ry h
  obtain ⟨p, xs, d, ds, rfl, hq, hd, hds, sd, cl, q⟩ := h
  cases ry
  obtain ⟨as, r1⟩ := Dp.reads I d x v hd rx
  rcases hq with hq | hq
  · obtain ⟨its, r, pl, hz⟩ := I.list hq
    obtain ⟨bs, r2⟩ := Dp.readsAll I ds _ its hds r
    have hr : ReadsAll s.heap its.toArray.toList ds bs := r2
    refine SeqAt.notIn_listAt (fun z => PyData.eqv (SeqAt.readOf s.heap z) d) pl.isList (SeqAt.items_eqAt hr r1 cl (SeqAt.canLay_of_shaped sd) (room_in_shaped sd hu)) ⟨.bl _, H, I, rfl, ?_⟩
    rw [show (its.toArray.any fun z => PyData.eqv (SeqAt.readOf s.heap z) d) = its.any fun z => PyData.eqv (SeqAt.readOf s.heap z) d by simp, any_read r2 cl]
    exact q
  · obtain ⟨its, r, pl, hz⟩ := I.tuple hq
    obtain ⟨bs, r2⟩ := Dp.readsAll I ds _ its hds r
    have hr : ReadsAll s.heap its.toArray.toList ds bs := r2
    refine SeqAt.notIn_tupleAt (fun z => PyData.eqv (SeqAt.readOf s.heap z) d) pl (SeqAt.items_eqAt hr r1 cl (SeqAt.canLay_of_shaped sd) (room_in_shaped sd hu)) ⟨.bl _, H, I, rfl, ?_⟩
    rw [show (its.toArray.any fun z => PyData.eqv (SeqAt.readOf s.heap z) d) = its.any fun z => PyData.eqv (SeqAt.readOf s.heap z) d by simp, any_read r2 cl]
    exact q
def rInDc (neg : Bool) : R2 := fun x y H Q => ∃ p o, y = .ref p ∧ DGet H p x o ∧ Q (.bl (if neg = true then !o.isSome else o.isSome)) H
theorem op_inDc {X : Cx} (hu : X.A.units + 1 < cLine) : OpR X (compareOp .In) (rInDc false) := by
  intro pins s σ H x y v u Q I rx ry h
  obtain ⟨p, o, rfl, g, q⟩ := h
  cases ry
  exact d_in hu I g rx fun s3 I3 => ⟨.bl _, H, I3, rfl, q⟩
theorem op_notInDc {X : Cx} (hu : X.A.units + 1 < cLine) : OpR X (compareOp .NotIn) (rInDc true) := by
  intro pins s σ H x y v u Q I rx ry h
  obtain ⟨p, o, rfl, g, q⟩ := h
  cases ry
  exact d_notIn hu I g rx fun s3 I3 => ⟨.bl _, H, I3, rfl, q⟩
def rMem (K : PySem.W.Frag) (neg : Bool) : R2 := fun x y H Q => rInQ K neg x y H Q ∨ rInDc neg x y H Q
def inOp : Bool → CmpOp
  | true => .NotIn
  | false => .In
theorem op_mem {X : Cx} (hu : X.A.units + 65 < cLine) (neg : Bool) : OpR X (compareOp (inOp neg)) (rMem X.K neg) := by
  cases neg with
  | false => exact (op_inQ hu).or (op_inDc (by omega))
  | true => exact (op_notInQ hu).or (op_notInDc (by omega))
theorem shaped_lst {ds : List PyData} (h : SeqAt.shaped (.list ds) = true) : PyData.canLayAll0 ds = true := SeqAt.canLay_of_shaped h
theorem mem_spec (R : Rel a w s.env s.hp σ H) {neg : Bool} {h : Hd} {u : U} {b : Bool} {x y : V} {Q : VK} (rx : RU a.K a.cls w H u x) (q : HdOk a σ w H h y) (e : memU s u h = some b) (k : Q (.bl (if neg = true then !b else b)) H) : rMem a.K neg x y H Q := by
  unfold memU at e
  split at e
  · rename_i t us e1
    obtain ⟨p, vs, rfl, r, hs⟩ := seq_spec R q e1
    unfold inU at e
    split at e
    · rename_i d ds h1 h2
      cases e
      obtain ⟨h2, h3⟩ := toS_some h2
      have h4 : toDs us = some ds := by
        simp only [toD] at h2
        cases q : toDs us with
        | none => rw [q] at h2; cases h2
        | some z => rw [q] at h2; cases h2; rfl
      exact .inl ⟨p, vs, d, ds, rfl, hs.or, rx.dp (toS_some h1).1, r.dp h4, (toS_some h1).2, shaped_lst h3, k⟩
    · cases e
  · split at e
    · rename_i t kvs e2
      obtain ⟨p, rfl, d⟩ := dic_spec R q e2
      cases e3 : look t kvs u with
      | none => rw [e3] at e; cases e
      | some o =>
        rw [e3] at e; cases e
        obtain ⟨r, g, m⟩ := look_spec d rx e3
        refine .inr ⟨p, r, rfl, g, ?_⟩
        have : r.isSome = o.isSome := by
          cases o <;> cases r <;> first | rfl | exact m.elim
        rw [this]
        exact k
    · cases e
def rLenD : List V → Hp → VK → Prop := fun xs H Q => ∃ p kvs, xs = [V.ref p] ∧ Rd H p (.dK kvs) ∧ Q (.int kvs.length) H
theorem call_lenK {X : Cx} : CallR X (.builtin "len") rLenD := by
  intro pins s σ H xs us Q I r h
  obtain ⟨p, kvs, rfl, hp, q⟩ := h
  obtain ⟨u, rfl, rx⟩ := vals1 r
  cases rx
  exact d_len I hp fun t s' I' => ⟨.int kvs.length, H, I', ⟨t, rfl⟩, q⟩
end
end EL
set_option Elab.async false
set_option linter.all false
set_option maxRecDepth 100000
/-! EC3: names; freezing. -/
namespace EL
open PySem PySem.Spec PyProof.Rows L2
section
variable {a : Act} {w : W} {env : List SV} {hp : List EO} {σ : L2.St} {H : Hp} {s : S} {p : Addr}
theorem Stp.more {w : W} {H : Hp} {p : Addr} : Stp w H (w.more p) H := ⟨fun _ h => .inl h, fun _ _ h => h, fun _ _ => rfl⟩
theorem upd_out {H : Hp} {p : Addr} {o : HO} : ∀ q, q ≠ p → upd H p o q = H q := fun q h => upd_ne h
/-- an own list or dict of a slot becomes a value -/
theorem Rel.freeze (R : Rel a w env hp σ H) {i : Nat} {s0 : SV} {u : U} {H' : Hp} (he : env[i]? = some s0) (ho : isOwn s0 = true) (hσ : σ[i]? = some (some (.ref p))) (hn : H' p ≠ none) (hk : ∀ q, q ≠ p → H' q = H q)
    (hr : RU a.K a.cls (w.more p) H' u (.ref p)) : Rel a (w.more p) (env.set i (.val u)) hp σ H' ∧ Stp w H (w.more p) H' := by
  obtain ⟨o1, o2, o3⟩ := R.own i s0 p he ho hσ
  have il : i < env.length := (List.getElem?_eq_some_iff.mp he).1
  have neF : ∀ x, w.F x → x ≠ p := fun x hx z => o1 (z ▸ hx)
  have st : Stp w H (w.more p) H' := ⟨fun _ h => .inl h, fun _ _ h => h, fun x hx => hk x (neF x hx)⟩
  have hset : ∀ {j : Nat} {t : SV}, j ≠ i → (env.set i (.val u))[j]? = some t → env[j]? = some t := fun {j t} hj e => by
    rw [List.getElem?_set_ne (Ne.symm hj)] at e; exact e
  refine ⟨⟨by rw [List.length_set]; exact R.len, fun j t e => ?_, fun j t q e h hq => ?_, fun j k t t' q e h hq e' h' hq' => ?_, R.clen, R.cnd, fun j o q ho' hq => ?_, fun j o q ho' hq hz => ?_, R.cell0, R.pre, fun x o hx hm ht => ?_, fun x hx => ?_, fun x hx => ?_, fun x hx => .inl (R.Fpre x hx), fun x hx => tabG_at (hk x (R.slot_ntab he ho hσ hx)) (R.tab x hx), fun x hx z => z.elim (R.tabF x hx) (R.slot_ntab he ho hσ hx)⟩, st⟩
  · by_cases hj : j = i
    · subst hj
      rw [List.getElem?_set_self il] at e; cases e
      exact ⟨.ref p, hσ, hr⟩
    · have e' := hset hj e
      refine (R.slot j t e').mono st fun h q hq => hk q fun z => ?_
      subst z
      exact hj (R.apart j i t s0 q e' h hq he ho hσ)
  · by_cases hj : j = i
    · subst hj; rw [List.getElem?_set_self il] at e; cases e; cases h
    · have e' := hset hj e
      obtain ⟨q1, q2, q3⟩ := R.own j t q e' h hq
      refine ⟨fun z => z.elim q1 fun z => ?_, q2, q3⟩
      subst z
      exact hj (R.apart j i t s0 q e' h hq he ho hσ)
  · by_cases hj : j = i
    · subst hj; rw [List.getElem?_set_self il] at e; cases e; cases h
    · by_cases hk' : k = i
      · subst hk'; rw [List.getElem?_set_self il] at e'; cases e'; cases h'
      · exact R.apart j k t t' q (hset hj e) h hq (hset hk' e') h' hq'
  · exact (R.cell j o q ho' hq).mono st (hk q fun z => o2 (z ▸ List.mem_of_getElem? hq))
  · exact fun z => z.elim (R.cellF j o q ho' hq hz) fun z => o2 (z ▸ List.mem_of_getElem? hq)
  · rw [hk x fun z => by subst z; rw [o3] at hx; cases hx]
    exact R.frame x o hx hm ht
  · rcases hx with hx | hx
    · rw [hk x (neF x hx)]; exact R.frz x hx
    · rw [hx]; exact hn
  · rcases hx with hx | hx
    · exact R.F0 x hx
    · rw [hx]; exact .inr (.inl (.inl o3))

def isDic : HO → Bool
  | .dK _ => true
  | .dT _ => true
  | _ => false
theorem Inv.frz {X : Cx} {pins : List (Addr × Obj)} {sh : Shared} {u : HO} (I : Inv X pins σ H sh) (h : H p = some u) (hd : isDic u = true) : ∃ o, Inv X pins σ (upd H p (.frz o u)) sh := by
  have ok := I.hok p u h
  have hob : ∃ o, sh.heap.get? p = some o := by
    cases u <;> first | (cases hd; done) | skip
    · obtain ⟨_, _, _, _, o, _, _, e, _⟩ := ok; exact ⟨o, e⟩
    · obtain ⟨_, _, _, _, o, _, _, e, _⟩ := ok; exact ⟨o, e⟩
  obtain ⟨o, eo⟩ := hob
  have nt : ∀ b xs, H b = some (.tup xs) → b ≠ p := fun b xs e z => by subst z; rw [h] at e; cases e; cases hd
  have no : ∀ b x, H b = some (.own x) → b ≠ p := fun b x e z => by subst z; rw [h] at e; cases e; cases hd
  have nf : ∀ b o u', H b = some (.frz o u') → b ≠ p := fun b o u' e z => by subst z; rw [h] at e; cases e; cases hd
  have nb : ∀ b ps, H b = some (.tbl ps) → b ≠ p := fun b ps e z => by subst z; rw [h] at e; cases e; cases hd
  refine ⟨o, I.un (h' := sh.heap) (t' := sh.toks) ⟨fun b ob q _ _ _ => q, fun b ob q _ _ _ => ⟨ob.slots, q⟩, fun b ob q n _ => ?_, fun b ob q _ => ⟨ob, q⟩, fun b xs q => ?_, fun b ob u' q => ?_, fun b ps q => ⟨#[], ?_⟩⟩ fun b v e => ?_⟩
  · rw [upd_ne fun z => by subst z; rw [h] at n; cases n]; exact n
  · rw [upd_ne (nt b xs q)]; exact q
  · rw [upd_ne (nf b ob u' q)]; exact q
  · rw [upd_ne (nb b ps q)]; simpa using q
  · have tr : ∀ {c : Addr} {z : HO}, ObjOk X.prog X.w H sh.heap c z → ObjOk X.prog X.w (upd H p (.frz o u)) sh.heap c z := fun {c z} k =>
      k.stay (fun b u' _ q => q) (fun b q => by rw [upd_ne (no b _ q)]; exact q) fun b xs q => by rw [upd_ne (nt b xs q)]; exact q
    by_cases hb : b = p
    · subst hb; rw [upd_same] at e; cases e
      exact ⟨eo, tr ok⟩
    · rw [upd_ne hb] at e
      exact tr (I.hok b v e)

def tVarE (i : Nat) : TE := fun σ H Q => ∃ v, σ[i]? = some (some v) ∧ (Q v H ∨ ∃ p u, v = .ref p ∧ H p = some u ∧ isDic u = true ∧ ∀ o, Q v (upd H p (.frz o u)))
theorem pe_varE {X : Cx} {i : Nat} {x : Str} {pos : Pos} (hN : X.N[i]? = some x) (hv : Vis X.env.scope x) (hd : (x == ("__debug__" : Str)) = false) (hcd : (x == ("__classdict__" : Str)) = false) : PE X (.Name x pos) (tVarE i) := by
  refine ⟨fun pins s σ H Q I h => ?_⟩
  obtain ⟨v, h1, h2⟩ := h
  refine thn ((pe_var (pos := pos) hN hv hd hcd).run pins s σ H (fun v' H' => v' = v ∧ H' = H) I ⟨v, h1, rfl, rfl⟩) fun u s1 ⟨v', H1, I1, r1, e1, e2⟩ => ?_
  subst e1 e2
  rcases h2 with q | ⟨p, u', rfl, h3, h4, q⟩
  · exact ⟨_, _, I1, r1, q⟩
  · obtain ⟨o, I2⟩ := Inv.frz I1 h3 h4
    exact ⟨_, _, I2, r1, q o⟩

theorem PE.imp {X : Cx} {e : Expr} {t t' : TE} (h : PE X e t) (i : ∀ σ H Q, t' σ H Q → t σ H Q) : PE X e t' := ⟨fun pins s σ H Q I q => h.run pins s σ H Q I (i σ H Q q)⟩
theorem PT.imp {X : Cx} {e : Expr} {t t' : TT} (h : PT X e t) (i : ∀ σ H Q, t' σ H Q → t σ H Q) : PT X e t' := ⟨fun pins s σ H Q I q => h.run pins s σ H Q I (i σ H Q q)⟩
theorem PA.imp {X : Cx} {e : List Expr} {t t' : TA} (h : PA X e t) (i : ∀ σ H Q, t' σ H Q → t σ H Q) : PA X e t' := ⟨fun pos pins s σ H Q I q => h.run pos pins s σ H Q I (i σ H Q q)⟩
theorem PS.imp {X : Cx} {e : Stmt} {t t' : TS} (h : PS X e t) (i : ∀ D σ H, t' D σ H → t D σ H) : PS X e t' := ⟨fun pins s σ H D I q => h.run pins s σ H D I (i D σ H q)⟩
theorem PSs.imp {X : Cx} {e : List Stmt} {t t' : TS} (h : PSs X e t) (i : ∀ D σ H, t' D σ H → t D σ H) : PSs X e t' := ⟨fun pins s σ H D I q => h.run pins s σ H D I (i D σ H q)⟩
theorem PW.imp {X : Cx} {e : Expr} {t t' : TT} (h : PW X e t) (i : ∀ σ H Q, t' σ H Q → t σ H Q) : PW X e t' := ⟨fun wh pins s σ H Q I q => h.run wh pins s σ H Q I (i σ H Q q)⟩

/-! ### the judgements over E -/
abbrev relB : W → Hp → Bool → Bool → Prop := fun _ _ b c => b = c
def SE (X : Cx) (a : Act) (Φ : Phi) (e : Expr) (m : M U) : Prop := PE X e (TR a Φ m (relU a))
def SH (X : Cx) (a : Act) (Φ : Phi) (e : Expr) (m : M Hd) : Prop := PE X e fun σ H Q => TR a Φ m (HdOk a σ) σ H Q
def STt (X : Cx) (a : Act) (Φ : Phi) (e : Expr) (m : M Bool) : Prop := PT X e (TR a Φ m relB)
def SA (X : Cx) (a : Act) (Φ : Phi) (es : List Expr) (m : M (List U)) : Prop := PA X es (TR a Φ m (relUs a))

section
variable {X : Cx} {Φ : Phi} {e e1 e2 : Expr} {m m1 m2 : M U} {pos : Pos} {i : Nat} {x : Str}
theorem se_var (hN : X.N[i]? = some x) (hv : Vis X.env.scope x) (hd : (x == ("__debug__" : Str)) = false) (hcd : (x == ("__classdict__" : Str)) = false) : SE X a Φ (.Name x pos) (eVar i) :=
  PE.imp (pe_varE hN hv hd hcd) fun σ H Q ⟨w, s, R, h⟩ => by
    unfold eVar at h
    cases e : s.env[i]? with
    | none => rw [e] at h; exact h.elim
    | some sv =>
      rw [e] at h
      cases sv with
      | no => exact h.elim
      | val u =>
        obtain ⟨v, h1, h2⟩ := R.slot i _ e
        exact ⟨v, h1, .inl (Out.now h R h2)⟩
      | ol us =>
        obtain ⟨p, h1, h2⟩ := R.slot i _ e
        refine ⟨.ref p, h1, .inl ?_⟩
        cases h2 with
        | lst h3 r =>
          have R' := R.freeze (u := .lst us) (H' := H) e rfl h1 (by rw [h3]; exact fun z => nomatch z) (fun _ _ => rfl) (.lst (.inr rfl) h3 (r.mono Stp.more))
          exact h _ _ _ R'.2 R'.1 (.lst (.inr rfl) h3 (r.mono R'.2))
      | od t kvs =>
        obtain ⟨p, h1, h2⟩ := R.slot i _ e
        obtain ⟨o1, o2, o3⟩ := R.own i _ p e rfl h1
        refine ⟨.ref p, h1, .inr ?_⟩
        have st : ∀ z, Stp w H (w.more p) (upd H p z) := fun z => ⟨fun _ h => .inl h, fun _ _ h => h, fun x hx => upd_ne fun z => o1 (z ▸ hx)⟩
        cases h2 with
        | dicK h3 r =>
          refine ⟨p, _, rfl, h3, rfl, fun o => ?_⟩
          have r' : RU a.K a.cls (w.more p) (upd H p (.frz o _)) (.dic false kvs) (.ref p) := .dicK (.inr rfl) upd_same (r.mono (st _))
          have R' := R.freeze (H' := upd H p (.frz o _)) e rfl h1 (by rw [upd_same]; exact fun z => nomatch z) upd_out r'
          exact h _ _ _ R'.2 R'.1 r'
        | dicT h3 r =>
          refine ⟨p, _, rfl, h3, rfl, fun o => ?_⟩
          have r' : RU a.K a.cls (w.more p) (upd H p (.frz o _)) (.dic true kvs) (.ref p) := .dicT (.inr rfl) upd_same (r.mono (st _))
          have R' := R.freeze (H' := upd H p (.frz o _)) e rfl h1 (by rw [upd_same]; exact fun z => nomatch z) upd_out r'
          exact h _ _ _ R'.2 R'.1 r'
theorem sh_slot (hN : X.N[i]? = some x) (hv : Vis X.env.scope x) (hd : (x == ("__debug__" : Str)) = false) (hcd : (x == ("__classdict__" : Str)) = false) : SH X a Φ (.Name x pos) (mSlot i) :=
  PE.imp (t := tVar i) (pe_var hN hv hd hcd) fun σ H Q ⟨w, s, R, h⟩ => by
    unfold mSlot at h
    cases e : s.env[i]? with
    | none => rw [e] at h; exact h.elim
    | some sv =>
      rw [e] at h
      cases sv with
      | no => exact h.elim
      | val u =>
        obtain ⟨v, h1, h2⟩ := R.slot i _ e
        exact ⟨v, h1, h _ _ _ Stp.refl R h2⟩
      | ol us =>
        obtain ⟨p, h1, h2⟩ := R.slot i _ e
        exact ⟨.ref p, h1, h _ _ _ Stp.refl R h1⟩
      | od t us =>
        obtain ⟨p, h1, h2⟩ := R.slot i _ e
        exact ⟨.ref p, h1, h _ _ _ Stp.refl R h1⟩
end
end
end EL
set_option Elab.async false
set_option linter.all false
set_option maxRecDepth 100000
/-! EC4: constants, operators, comparisons, truth, displays. -/
namespace EL
open PySem PySem.Spec PyProof.Rows L2

/-- a relation that stays -/
def Mono {α β : Type} (r : W → Hp → α → β → Prop) : Prop := ∀ {w w' : W} {H H' : Hp} {x : α} {y : β}, Stp w H w' H' → r w H x y → r w' H' x y
theorem monoU (a : Act) : Mono (relU a) := fun st h => RU.mono st h
theorem monoUs (a : Act) : Mono (relUs a) := fun st h => RUs.mono st h
theorem monoH (a : Act) (σ : L2.St) : Mono (HdOk a σ) := fun st h => HdOk.mono st h
theorem monoB : Mono relB := fun _ h => h

section
variable {α β γ δ ε ζ : Type} {a : Act} {Φ : Phi} {w : W} {σ : L2.St} {H : Hp} {s : S}
theorem TR.step {m : M α} {f : α → M γ} {r1 : W → Hp → α → β → Prop} {r2 : W → Hp → γ → δ → Prop} {Q : δ → Hp → Prop} (h : TR a Φ (EL.bnd m f) r2 σ H Q) :
    TR a Φ m r1 σ H (fun y H1 => ∃ (w1 : W) (x : α) (s1 : S), r1 w1 H1 x y ∧ Sat a Φ w1 σ H1 s1 (f x) r2 Q) := by
  obtain ⟨w, s, h⟩ := h
  obtain ⟨R, q⟩ := Sat.bnd (r1 := r1) h
  refine ⟨w, s, R, ?_⟩
  cases e : m Φ s with
  | none => rw [e] at q; exact q
  | some r =>
    rw [e] at q
    cases r with
    | ok x s' =>
      intro w1 H1 y st R1 rx
      obtain ⟨w2, x2, s2, _, r2', h2⟩ := q w1 H1 y st R1 rx
      exact ⟨w2, x2, s2, r2', h2⟩
    | ex c g v s' => exact q
theorem TR.one {m : M α} {k : α → M γ} {r1 : W → Hp → α → β → Prop} {r : W → Hp → γ → δ → Prop} {Q : δ → Hp → Prop} {P : β → Hp → Prop} (h : TR a Φ (EL.bnd m k) r σ H Q)
    (f : ∀ (w : W) (H : Hp) (s : S) (x : α) (y : β), r1 w H x y → Sat a Φ w σ H s (k x) r Q → P y H) : TR a Φ m r1 σ H P := by
  obtain ⟨w, s, R, q⟩ := TR.step (r1 := r1) h
  refine ⟨w, s, R, ?_⟩
  cases e : m Φ s with
  | none => rw [e] at q; exact q
  | some z =>
    rw [e] at q
    cases z with
    | ok x s' =>
      intro w1 H1 y st R1 rx
      obtain ⟨w2, x2, s2, r2', h2⟩ := q w1 H1 y st R1 rx
      exact f w2 H1 s2 x2 y r2' h2
    | ex c g v s' => exact q
theorem TR.two {m1 : M α} {m2 : M γ} {k : α → γ → M ε} {r1 : W → Hp → α → β → Prop} {r2 : W → Hp → γ → δ → Prop} {r : W → Hp → ε → ζ → Prop} {Q : ζ → Hp → Prop} {P : β → δ → Hp → Prop} (mo : Mono r1)
    (h : TR a Φ (EL.bnd m1 fun u => EL.bnd m2 fun v => k u v) r σ H Q)
    (f : ∀ (w : W) (H : Hp) (s : S) (u : α) (v : γ) (x : β) (y : δ), r1 w H u x → r2 w H v y → Sat a Φ w σ H s (k u v) r Q → P x y H) :
    TR a Φ m1 r1 σ H (fun x H1 => TR a Φ m2 r2 σ H1 (fun y H2 => P x y H2)) := by
  refine TR.one h fun w H1 s u x rx h1 => ?_
  have q := Sat.bnd (r1 := r2) h1
  refine ⟨w, s, q.1, ?_⟩
  obtain ⟨R, q⟩ := q
  cases e : m2 Φ s with
  | none => rw [e] at q; exact q
  | some z =>
    rw [e] at q
    cases z with
    | ok v s' =>
      intro w1 H2 y st R1 ry
      obtain ⟨w2, v2, s2, st2, r2', h2⟩ := q w1 H2 y st R1 ry
      exact f w2 H2 s2 u v2 x y (mo st2 rx) r2' h2
    | ex c g v s' => exact q
/-- the end of a chain: a function of values -/
theorem Sat.fin {o : Option α} {rel : W → Hp → α → β → Prop} {Q : β → Hp → Prop} (h : Sat a Φ w σ H s (EL.ofO o) rel Q) : ∃ x, o = some x ∧ Rel a w s.env s.hp σ H ∧ Out a w σ H s rel x Q := by
  obtain ⟨x, e, q⟩ := Sat.ofO h
  exact ⟨x, e, h.1, q⟩
theorem Sat.lk {g : S → Option α} {rel : W → Hp → α → β → Prop} {Q : β → Hp → Prop} (h : Sat a Φ w σ H s (look' g) rel Q) : ∃ x, g s = some x ∧ Rel a w s.env s.hp σ H ∧ Out a w σ H s rel x Q := by
  obtain ⟨R, h⟩ := h
  unfold look' at h
  cases e : g s with
  | none => rw [e] at h; exact h.elim
  | some x => rw [e] at h; exact ⟨x, rfl, R, h⟩
end

/-! ### E's words -/
def eC (u : U) : M U := ret u
def eBop (o : BOp) (m1 m2 : M U) : M U := bnd m1 fun u => bnd m2 fun v => ofO (bop o u v)
def eCop (o : COp) (m1 m2 : M U) : M U := bnd m1 fun u => bnd m2 fun v => ofO ((cop o u v).map U.bl)
def eMem (neg : Bool) (m1 : M U) (m2 : M Hd) : M U := bnd m1 fun u => bnd m2 fun h => look' fun s => (memU s u h).map fun b => U.bl (if neg = true then !b else b)
def eGet (m1 : M Hd) (m2 : M U) : M U := bnd m1 fun h => bnd m2 fun i => look' fun s => getU s h i
/-- a test of a truth value -/
def tV (m : M U) : M Bool := bnd m fun u => match u with
  | .bl b => ret b
  | _ => fail
def tNot' (m : M Bool) : M Bool := bnd m fun b => ret (!b)
def tAnd' (m1 m2 : M Bool) : M Bool := bnd m1 fun b => if b = true then m2 else ret false
def tOr' (m1 m2 : M Bool) : M Bool := bnd m1 fun b => if b = true then ret true else m2
def eAnd (m1 m2 : M U) : M U := bnd m1 fun u => match u with
  | .bl true => m2
  | .bl false => ret (.bl false)
  | _ => fail
def eOr (m1 m2 : M U) : M U := bnd m1 fun u => match u with
  | .bl true => ret (.bl true)
  | .bl false => m2
  | _ => fail
def eNot (m1 : M U) : M U := bnd m1 fun u => match u with
  | .bl b => ret (.bl (!b))
  | _ => fail
def eIf (t : M Bool) (m1 m2 : M U) : M U := bnd t fun b => if b = true then m1 else m2
def aNil : M (List U) := ret []
def aCons (m : M U) (ms : M (List U)) : M (List U) := bnd m fun u => bnd ms fun us => ret (u :: us)
def eTup (ms : M (List U)) : M U := bnd ms fun us => ofO (if us.length ≤ line then some (.tup us) else none)
def eLst (ms : M (List U)) : M U := bnd ms fun us => ofO (if us.length ≤ line then some (.lst us) else none)

section
variable {a : Act} {X : Cx} {Φ : Phi} {e e1 e2 e3 : Expr} {es : List Expr} {m m1 m2 m3 : M U} {mh : M Hd} {t t1 t2 : M Bool} {ms : M (List U)} {pos : Pos}
theorem se_int {i : Int} {j : Nat} : SE X a Φ (.Constant (.int i) j pos) (eC (.int i)) := PE.imp (t := tC (.int i)) pe_int fun _ _ _ ⟨_, _, R, h⟩ => Out.now h R (.int i)
theorem se_bl {b : Bool} {j : Nat} : SE X a Φ (.Constant (.bool b) j pos) (eC (.bl b)) := PE.imp (t := tC (.bl b)) pe_bl fun _ _ _ ⟨_, _, R, h⟩ => Out.now h R (.bl b)
theorem se_non {j : Nat} : SE X a Φ (.Constant .none j pos) (eC .non) := PE.imp (t := tC .non) pe_non fun _ _ _ ⟨_, _, R, h⟩ => Out.now h R .non
theorem se_str {x : Str} {j : Nat} : SE X a Φ (.Constant (.str x) j pos) (eC (.str x)) := PE.imp (t := tC (.str x)) pe_str fun _ _ _ ⟨_, _, R, h⟩ => Out.now h R (.str x)
theorem se_glob {x : Str} {i : Int} {u : Value} (hg : Gl X x) (hm : X.mg x = some u) (r : RelV (.int i) u) (hd : (x == ("__debug__" : Str)) = false) : SE X a Φ (.Name x pos) (eC (.int i)) :=
  PE.imp (t := tC (.int i)) (pe_glob hg hm r hd) fun _ _ _ ⟨_, _, R, h⟩ => Out.now h R (.int i)
theorem se_bop (hK : X.K = a.K) (o : BOp) (h1 : SE X a Φ e1 m1) (h2 : SE X a Φ e2 m2) : SE X a Φ (.BinOp e1 (opOf o) e2 pos) (eBop o m1 m2) :=
  PE.imp (pe_op (op_bop o) h1 h2) fun σ H Q h => TR.two (monoU a) h fun w H s u v x y rx ry q => by
    obtain ⟨z, e, R, k⟩ := Sat.fin q
    rw [hK]
    exact bop_spec R rx ry e k
theorem se_cop (hK : X.K = a.K) (hu : X.A.units + 65 < cLine) (o : COp) (h1 : SE X a Φ e1 m1) (h2 : SE X a Φ e2 m2) : SE X a Φ (.Compare e1 [copOf o] [e2] pos) (eCop o m1 m2) :=
  PE.imp (pe_cmpR (op_cop (by omega) o) h1 h2 (nobehind e2 (by cases o <;> decide) (by cases o <;> decide))) fun σ H Q h => TR.two (monoU a) h fun w H s u v x y rx ry q => by
    obtain ⟨z, e, R, k⟩ := Sat.fin q
    rw [hK]
    cases q : cop o u v with
    | none => rw [q] at e; cases e
    | some b => rw [q] at e; cases e; exact cop_spec rx ry q (Out.now k R (.bl b))
theorem se_mem (hK : X.K = a.K) (hu : X.A.units + 65 < cLine) (neg : Bool) (h1 : SE X a Φ e1 m1) (h2 : SH X a Φ e2 mh) (hb : behindInMarks (inOp neg) e2 = false) : SE X a Φ (.Compare e1 [inOp neg] [e2] pos) (eMem neg m1 mh) :=
  PE.imp (pe_cmpR (op_mem hu neg) h1 h2 hb) fun σ H Q h => TR.two (monoU a) h fun w H s u v x y rx ry q => by
    obtain ⟨z, e, R, k⟩ := Sat.lk q
    rw [hK]
    cases q : memU s u v with
    | none => rw [q] at e; cases e
    | some b => rw [q] at e; cases e; exact mem_spec R rx ry q (Out.now k R (.bl _))
theorem se_get (hK : X.K = a.K) (hu : X.A.units + 65 < cLine) (h1 : SH X a Φ e1 mh) (h2 : SE X a Φ e2 m2) (hs : PlainIx e2) : SE X a Φ (.Subscript e1 e2 pos) (eGet mh m2) :=
  PE.imp (pe_ix (ix_get (by omega)) h1 h2 hs) fun σ H Q h => TR.two (monoH a σ) h fun w H s u v x y rx ry q => by
    obtain ⟨z, e, R, k⟩ := Sat.lk q
    rw [hK]
    exact get_spec R rx ry e fun v r => Out.now k R r
theorem sh_of (h : SE X a Φ e m) : SH X a Φ e (hdl m) :=
  PE.imp h fun σ H Q q => TR.one q fun w H s u x rx k => Out.now (Sat.ret k) k.1 rx
/-! ### truth -/
theorem st_val (h : SE X a Φ e m) (he : ∀ whole, isTrue e X.env whole = (do let v ← whole; standAt e.pos; holding [v] (truthy v))) : STt X a Φ e (tV m) :=
  PT.imp (pt_val h he) fun σ H Q q => TR.one q fun w H s u x rx k => by
    cases u <;> first | exact k.2.elim | skip
    cases rx
    exact ⟨_, rfl, Out.now (Sat.ret k) k.1 rfl⟩
theorem st_not (h : STt X a Φ e t) : STt X a Φ (.UnaryOp .Not e pos) (tNot' t) :=
  PT.imp (pt_not h) fun σ H Q q => TR.one (r1 := relB) q fun w H s b c rx k => by
    have e1 : b = c := rx
    subst e1
    exact Out.now (Sat.ret k) k.1 rfl
theorem se_not (h : SE X a Φ e m) : SE X a Φ (.UnaryOp .Not e pos) (eNot m) :=
  PE.imp (pe_not h) fun σ H Q q => TR.one q fun w H s u x rx k => by
    cases u <;> first | exact k.2.elim | skip
    cases rx
    exact ⟨_, rfl, Out.now (Sat.ret k) k.1 (.bl _)⟩
theorem se_and1 {op : BoolOp} (h : SE X a Φ e m) : SE X a Φ (.BoolOp op [e] pos) m := pe_one h
theorem se_and (h1 : SE X a Φ e1 m1) (h2 : SE X a Φ (.BoolOp .And (e2 :: es) pos) m2) : SE X a Φ (.BoolOp .And (e1 :: e2 :: es) pos) (eAnd m1 m2) :=
  PE.imp (pe_and h1 h2) fun σ H Q q => TR.one q fun w H s u x rx k => by
    cases u <;> first | exact k.2.elim | skip
    rename_i b
    cases rx
    refine ⟨b, rfl, ?_⟩
    cases b with
    | true => rw [if_pos rfl]; exact ⟨w, s, k⟩
    | false => rw [if_neg Bool.false_ne_true]; exact Out.now (Sat.ret k) k.1 (.bl _)
theorem se_or (h1 : SE X a Φ e1 m1) (h2 : SE X a Φ (.BoolOp .Or (e2 :: es) pos) m2) : SE X a Φ (.BoolOp .Or (e1 :: e2 :: es) pos) (eOr m1 m2) :=
  PE.imp (pe_or h1 h2) fun σ H Q q => TR.one q fun w H s u x rx k => by
    cases u <;> first | exact k.2.elim | skip
    rename_i b
    cases rx
    refine ⟨b, rfl, ?_⟩
    cases b with
    | true => rw [if_pos rfl]; exact Out.now (Sat.ret k) k.1 (.bl _)
    | false => rw [if_neg Bool.false_ne_true]; exact ⟨w, s, k⟩
/-- tests of and, or: whatever their whole is -/
def SW (X : Cx) (a : Act) (Φ : Phi) (e : Expr) (m : M Bool) : Prop := PW X e (TR a Φ m relB)
theorem sw_pt (h : SW X a Φ e t) : STt X a Φ e t := PW.pt h
theorem sw_and1 (h : STt X a Φ e t) : SW X a Φ (.BoolOp .And [e] pos) t := pw_and1 h
theorem sw_or1 (h : STt X a Φ e t) : SW X a Φ (.BoolOp .Or [e] pos) t := pw_or1 h
theorem sw_and (h1 : STt X a Φ e1 t1) (h2 : SW X a Φ (.BoolOp .And (e2 :: es) pos) t2) : SW X a Φ (.BoolOp .And (e1 :: e2 :: es) pos) (tAnd' t1 t2) :=
  PW.imp (pw_and h1 h2) fun σ H Q q => TR.one (r1 := relB) q fun w H s b c rx k => by
    have e1 : b = c := rx
    subst e1
    cases b with
    | true => rw [if_pos rfl]; exact ⟨w, s, k⟩
    | false => rw [if_neg Bool.false_ne_true]; exact Out.now (Sat.ret k) k.1 rfl
theorem sw_or (h1 : STt X a Φ e1 t1) (h2 : SW X a Φ (.BoolOp .Or (e2 :: es) pos) t2) : SW X a Φ (.BoolOp .Or (e1 :: e2 :: es) pos) (tOr' t1 t2) :=
  PW.imp (pw_or h1 h2) fun σ H Q q => TR.one (r1 := relB) q fun w H s b c rx k => by
    have e1 : b = c := rx
    subst e1
    cases b with
    | true => rw [if_pos rfl]; exact Out.now (Sat.ret k) k.1 rfl
    | false => rw [if_neg Bool.false_ne_true]; exact ⟨w, s, k⟩
theorem se_if (h : STt X a Φ e t) (h1 : SE X a Φ e1 m1) (h2 : SE X a Φ e2 m2) : SE X a Φ (.IfExp e e1 e2 pos) (eIf t m1 m2) :=
  PE.imp (pe_ifExp h h1 h2) fun σ H Q q => TR.one (r1 := relB) q fun w H s b c rx k => by
    have e1 : b = c := rx
    subst e1
    cases b with
    | true => rw [if_pos rfl]; exact ⟨w, s, k⟩
    | false => rw [if_neg Bool.false_ne_true]; exact ⟨w, s, k⟩
/-! ### arguments, displays -/
theorem sa_nil : SA X a Φ [] aNil := PA.imp pa_nil fun σ H Q ⟨w, s, R, h⟩ => Out.now h R .nil
theorem sa_cons (h : SE X a Φ e m) (hr : SA X a Φ es ms) (hs : starEach (e :: es) X.env = (false, eval e X.env) :: starEach es X.env) : SA X a Φ (e :: es) (aCons m ms) :=
  PA.imp (pa_cons h hr hs) fun σ H Q q => TR.two (monoU a) q fun w H s u v x y rx ry k => Out.now (Sat.ret k) k.1 (.cons rx ry)
theorem se_tup {x1 : Nat} (h : SA X a Φ es ms) : SE X a Φ (.Tuple es x1 pos) (eTup ms) :=
  PE.imp (pe_tup h) fun σ H Q q => TR.one q fun w H s us vs r k => by
    obtain ⟨z, e, R, k⟩ := Sat.fin k
    by_cases hl : us.length ≤ line
    · rw [if_pos hl] at e; cases e
      exact ⟨by rw [← r.length]; exact hl, fun p hp => k _ _ _ (Stp.new R hp) (R.new hp) (.tup (.inr rfl) upd_same (r.mono (Stp.new R hp)))⟩
    · rw [if_neg hl] at e; cases e
theorem se_lst (h : SA X a Φ es ms) : SE X a Φ (.List es pos) (eLst ms) :=
  PE.imp (pe_lst h) fun σ H Q q => TR.one q fun w H s us vs r k => by
    obtain ⟨z, e, R, k⟩ := Sat.fin k
    by_cases hl : us.length ≤ line
    · rw [if_pos hl] at e; cases e
      exact ⟨by rw [← r.length]; exact hl, fun p hp => k _ _ _ (Stp.new R hp) (R.new hp) (.lst (.inr rfl) upd_same (r.mono (Stp.new R hp)))⟩
    · rw [if_neg hl] at e; cases e
end
end EL
set_option Elab.async false
set_option linter.all false
set_option maxRecDepth 100000
/-! EC5: calls of the text's defs and of built-ins. -/
namespace EL
open PySem PySem.Spec PyProof.Rows L2

/-- a call by what the table says -/
def callM (q : Str) (us : List U) : M U := fun Φ s => match Φ q us s.hp with
  | none => none
  | some (.ok u hp) => some (.ok u ⟨s.env, hp⟩)
  | some (.ex c f v hp) => some (.ex c f v ⟨s.env, hp⟩)
def entry (K : PySem.W.Frag) (cls : Cl) (w : W) (H : Hp) (E : XK) : Act := ⟨K, cls, w.F, w.ρ, H, fun c d _ H' => E c d H'⟩
/-- what the def q, of np parameters, promises -/
def spE (K : PySem.W.Frag) (cls : Cl) (Φ : Phi) (q : Str) (np : Nat) : Sp := fun vs H Q E =>
  vs.length = np ∧ ∃ (w : W) (hp : List EO) (us : List U), RUs K cls w H us vs ∧ Sat (entry K cls w H E) Φ w [] H ⟨[], hp⟩ (callM q us) (relU (entry K cls w H E)) Q

section
variable {a : Act} {w w' : W} {env : List SV} {hp hp' : List EO} {σ : L2.St} {H H' : Hp} {E : XK}
theorem Rel.enter (R : Rel a w env hp σ H) : Rel (entry a.K a.cls w H E) w [] hp [] H where
  len := rfl
  slot := fun i s e => by simp at e
  own := fun i s p e => by simp at e
  apart := fun i j s t p e => by simp at e
  clen := R.clen
  cnd := R.cnd
  cell := R.cell
  cellF := R.cellF
  cell0 := fun p hp => .inl hp
  pre := fun _ _ h => h
  frame := fun _ _ h _ _ => h
  frz := R.frz
  F0 := fun _ h => .inl h
  Fpre := fun _ h => h
  tab := R.tab
  tabF := R.tabF
theorem Rel.back (R : Rel a w env hp σ H) (R' : Rel (entry a.K a.cls w H E) w' [] hp' [] H') (st : Stp w H w' H') : Rel a w' env hp' σ H' := by
  have keep : ∀ p, H p ≠ none → p ∉ w.ρ → p ∉ a.cls.T → H' p = H p := fun p hn hm ht => by
    cases e : H p with
    | none => exact absurd e hn
    | some o => exact R'.frame p o e hm ht
  refine ⟨R.len, fun i s e => (R.slot i s e).mono st fun ho p hq => ?_, fun i s p e ho hq => ?_, R.apart, R'.clen, R'.cnd, R'.cell, R'.cellF, fun p hp => ?_, fun i p h => R'.pre i p (R.pre i p h), fun x o hx hm ht => ?_, R'.frz, fun x hx => ?_, fun x hx => R'.Fpre x (R.Fpre x hx), R'.tab, R'.tabF⟩
  · obtain ⟨p', h1, h2⟩ := R.slot_there e ho
    rw [h1] at hq; cases hq
    exact keep p h2 (R.own i s p e ho h1).2.1 fun z => R.slot_ntab e ho h1 z rfl
  · obtain ⟨p', h1, h2⟩ := R.slot_there e ho
    rw [h1] at hq; cases hq
    obtain ⟨o1, o2, o3⟩ := R.own i s p e ho h1
    refine ⟨fun z => ?_, fun z => ?_, o3⟩
    · rcases R'.F0 p z with z | z
      · exact o1 z
      · rcases z with (z | ⟨xs, z⟩) | z
        · exact h2 z
        · exact R.slot_ntup e ho h1 z
        · exact o2 z
    · rcases R'.cell0 p z with z | z
      · exact o2 z
      · exact h2 z
  · rcases R'.cell0 p hp with z | z
    · exact R.cell0 p z
    · exact .inr (R.fresh0 z)
  · have q := R.frame x o hx hm ht
    have nm : x ∉ w.ρ := fun z => by
      rcases R.cell0 x z with z | z
      · exact hm z
      · rw [hx] at z; cases z
    exact R'.frame x o q nm ht
  · rcases R'.F0 x hx with z | z
    · exact R.F0 x z
    · rcases z with z | z
      · exact .inr (.inl (R.old0 z))
      · rcases R.cell0 x z with z | z
        · exact .inr (.inr z)
        · exact .inr (.inl (.inl z))
theorem Rel.drop (R : Rel a w env hp σ H) : Rel a w [] hp [] H where
  len := rfl
  slot := fun i s e => by simp at e
  own := fun i s p e => by simp at e
  apart := fun i j s t p e => by simp at e
  clen := R.clen
  cnd := R.cnd
  cell := R.cell
  cellF := R.cellF
  cell0 := R.cell0
  pre := R.pre
  frame := R.frame
  frz := R.frz
  F0 := R.F0
  Fpre := R.Fpre
  tab := R.tab
  tabF := R.tabF
/-- the caller's wish gives the callee's -/
theorem call_spec {Φ : Phi} {s : S} {q : Str} {us : List U} {vs : List V} {Q : VK} (r : RUs a.K a.cls w H us vs) (h : Sat a Φ w σ H s (callM q us) (relU a) Q) : spE a.K a.cls Φ q vs.length vs H Q (fun c d H' => a.E c d σ H') := by
  obtain ⟨R, h⟩ := h
  refine ⟨rfl, w, s.hp, us, r, R.enter, ?_⟩
  unfold callM at h ⊢
  cases e : Φ q us s.hp with
  | none => rw [e] at h; exact h
  | some z =>
    rw [e] at h
    cases z with
    | ok u hp' => exact fun w' H' y st R' ry => h w' H' y st (R.back R' st) ry
    | ex c f v hp' => exact fun w' H' d y σ' st R' ry hd => h w' H' d y σ st (R.back R'.drop st) ry hd
end

def eCall (q : Str) (np : Nat) (ms : M (List U)) : M U := bnd ms fun us => if us.length = np then callM q us else fail
/-- built-ins of one sequence -/
def eLen (mh : M Hd) : M U := bnd mh fun h => look' fun s => lenU s h
def tupleU (s : S) (h : Hd) : Option U := match seqOf s h with
  | some (_, us) => some (.tup us)
  | none => none
def listU (s : S) (h : Hd) : Option U := match seqOf s h with
  | some (_, us) => some (.lst us)
  | none => none
def eTupleOf (mh : M Hd) : M U := bnd mh fun h => look' fun s => tupleU s h
def eListOf (mh : M Hd) : M U := bnd mh fun h => look' fun s => listU s h
def int1 : U → Option U
  | .int i => some (.int i)
  | .bl b => some (.int (if b = true then 1 else 0))
  | _ => none
def eInt1 (m : M U) : M U := bnd m fun u => ofO (int1 u)
def mm2 (lt : Bool) : List U → Option U
  | [.int i, .int j] => some (.int (if lt = true then (if j < i then j else i) else if j > i then j else i))
  | _ => none
def eMM2 (lt : Bool) (ms : M (List U)) : M U := bnd ms fun us => ofO (mm2 lt us)
/-- sorted -/
def dOf (u : U) : PyData := (toD u).getD .none
def leU (u v : U) : Bool := PySem.W.dataLe false dOf u v
def isTup1 : PyData → Bool
  | .tuple (_ :: _) => true
  | _ => false
def noTup : PyData → Bool
  | .none => false
  | .tuple _ => false
  | _ => true
def sortOk (us : List U) : Bool := us.all (fun u => (toS u).isSome) && us.all (fun u => us.all fun v => PySem.W.alike (dOf u) (dOf v)) && (us.all (fun u => isTup1 (dOf u)) || us.all fun u => noTup (dOf u)) && decide (us.length ≤ line)
def sortU (us : List U) : Option U := if sortOk us = true then some (.lst (us.mergeSort leU)) else none
def sortedU (s : S) (h : Hd) : Option U := match seqOf s h with
  | some (false, us) => sortU us
  | _ => none
def eSorted (mh : M Hd) : M U := bnd mh fun h => look' fun s => sortedU s h

theorem CallR.or {X : Cx} {f : Value} {r r' : List V → Hp → VK → Prop} (h : CallR X f r) (h' : CallR X f r') : CallR X f (fun x H Q => r x H Q ∨ r' x H Q) := by
  intro pins s σ H xs us Q I rx q
  rcases q with q | q
  · exact h pins s σ H xs us Q I rx q
  · exact h' pins s σ H xs us Q I rx q
def rLenT2 : List V → Hp → VK → Prop := fun xs H Q => ∃ (p : Addr) (kvs : List (List L2.Key × V)), xs = [.ref p] ∧ Rd H p (.dT kvs) ∧ Q (.int ((kvs.length : Nat) : Int)) H
theorem call_lenT2 {X : Cx} : CallR X (.builtin "len") rLenT2 := by
  intro pins s σ H xs us Q I r h
  obtain ⟨p, kvs, rfl, hp, q⟩ := h
  obtain ⟨u, rfl, rx⟩ := vals1 r
  obtain rfl : u = .ref p := rx
  obtain ⟨z, hd, ys, rel, dd⟩ := dt_rd I.hok hp
  have hl : kvs.length = ys.length := Paired.length rel
  refine call_len_dictH hd dd (by rw [← hl]; rw [sizeLine_eq] at z; omega) ?_
  rw [← hl]
  exact ⟨.int ((kvs.length : Nat) : Int), H, I.tok _, ⟨_, rfl⟩, q⟩
theorem call_lenA {X : Cx} : CallR X (.builtin "len") (fun xs H Q => (∃ p ys, xs = [V.ref p] ∧ (SqL X.K H p ys ∨ SqT X.K H p ys) ∧ Q (.int ys.length) H) ∨ rLenD xs H Q ∨ rLenT2 xs H Q) :=
  CallR.or call_len_seq (CallR.or call_lenK call_lenT2)

/-! ### sorted, over data -/
theorem dOf_some {u : U} (h : (toS u).isSome = true) : toD u = some (dOf u) ∧ SeqAt.shaped (dOf u) = true := by
  cases e : toS u with
  | none => rw [e] at h; cases h
  | some d =>
    obtain ⟨h1, h2⟩ := toS_some e
    unfold dOf
    rw [h1]
    exact ⟨rfl, h2⟩
def rSortD (K : PySem.W.Frag) : List V → Hp → VK → Prop := fun xs H Q => ∃ (p : Addr) (bs : List (U × V)), xs = [.ref p] ∧ SqL K H p (bs.map (·.2)) ∧ (∀ b ∈ bs, Dp K H b.2 (dOf b.1) ∧ SeqAt.shaped (dOf b.1) = true) ∧
  PySem.W.AllAlike (bs.map fun b => dOf b.1) ∧ PySem.W.Sortable (bs.map fun b => dOf b.1) ∧ ∀ l, H l = none → Q (.ref l) (upd H l (.lst ((bs.mergeSort fun b c => leU b.1 c.1).map (·.2))))
theorem each_of {α β : Type} {R : α → β → Prop} {T : α → β → Prop} : ∀ {vs : List α} {bs : List β}, PySem.W.EachIs R vs bs → (∀ v b, b ∈ bs → R v b → T v b) → PySem.W.EachIs T vs bs
  | _, _, .nil, _ => .nil
  | _, _, .cons r t, f => .cons (f _ _ List.mem_cons_self r) (each_of t fun v b hb => f v b (List.mem_cons_of_mem _ hb))
theorem each_vals {bs : List (U × V)} : ∀ {vs : List Value}, Vals (bs.map (·.2)) vs → PySem.W.EachIs (fun v b => RelV b.2 v) vs bs := by
  induction bs with
  | nil => intro vs r; cases r; exact .nil
  | cons b bs ih => intro vs r; cases r with | cons r t => exact .cons r (ih t)
theorem vals_each {bs : List (U × V)} : ∀ {vs : List Value}, PySem.W.EachIs (fun v b => RelV b.2 v) vs bs → Vals (bs.map (·.2)) vs := by
  induction bs with
  | nil => intro vs r; cases r; exact .nil
  | cons b bs ih => intro vs r; cases r with | cons r t => exact .cons r (ih t)
theorem cr_sortD {X : Cx} (hu : X.A.units + 70 < cLine) : CallR X (.builtin "sorted") (rSortD X.K) := by
  intro pins s σ H xs us Q I r h
  obtain ⟨p, bs, rfl, hs, hd, al, so, q⟩ := h
  obtain ⟨u, rfl, rx⟩ := vals1 r
  obtain rfl : u = Value.ref p := rx
  obtain ⟨its, rv, hl, hz⟩ := I.list hs
  have ev := each_vals rv
  rw [List.length_map] at hz
  refine PySem.W.sorted_data (enc := fun b : U × V => dOf b.1) (R := fun v b => RelV b.2 v) hl.isList ev (each_of ev fun v b hb r => Dp.reads I _ b.2 v (hd b hb).1 r) al so hz (fun b hb => ?_) fun out ho hout => ?_
  · have h1 := SeqAt.depth_of_shaped (hd b hb).2
    show X.A.units + 2 + (dOf b.1).depth < cLine
    omega
  · obtain ⟨c, hc⟩ := sortedAll_at s.heap its out.toArray
    refine ⟨.ref (s.heap.objs.size + 1), _, I.laid (t' := s.toks) (o := .lst ((bs.mergeSort fun b c => leU b.1 c.1).map (·.2))) (fun b u e => sortedAll_old e) (Nat.le_succ _) ?_, rfl, q _ (I.hok.fresh (Nat.le_succ _))⟩
    refine ⟨?_, out, c, vals_each hout, hc⟩
    rw [List.length_map, List.length_mergeSort]
    exact hz

section
variable {a : Act} {X : Cx} {Φ : Phi} {e e1 : Expr} {es : List Expr} {ms : M (List U)} {m : M U} {mh : M Hd} {p pos : Pos} {x q : Str} {np k : Nat} {f : Addr} {fd : FuncData} {ps : List Str} {w : W} {σ : L2.St} {H : Hp} {s : S}
theorem se_call (hK : X.K = a.K) (F : FnOk X.prog X.w X.K X.mg X.base (L2.CX X.prog X.w) k f fd ps (spE X.K a.cls Φ q np)) (hr : Room k X.A) (hg : Gl X x) (hm : X.mg x = some (.ref f)) (hk : PySem.W.keepIn X.K (.ref f) = true) (hb : Binds X.K fd ps [])
    (tk : Takes X a.E) (ha : SA X a Φ (e :: es) ms) (hdb : (x == ("__debug__" : Str)) = false) (he : starEach (e :: es) X.env = (false, eval e X.env) :: starEach es X.env)
    (hpl : (backTo pos (starEach es X.env)).any (·.1) = false) : SE X a Φ (.Call (.Name x p) (e :: es) [] pos) (eCall q np ms) :=
  PE.imp (pe_callS F hr hg hm hk hb (fun σ => passAt tk σ) ha hdb he hpl) fun σ H Q h => TR.one h fun w H s us vs r k => by
    by_cases hl : us.length = np
    · rw [if_pos hl] at k
      have c := call_spec r k
      rw [← r.length, hl, ← hK] at c
      exact c
    · rw [if_neg hl] at k; exact k.2.elim
theorem sa_one {mh : M Hd} (h : SH X a Φ e mh) (hs : starEach [e] X.env = (false, eval e X.env) :: starEach [] X.env) : PA X [e] (tCons (fun σ H Q => TR a Φ mh (HdOk a σ) σ H Q) tNil) := pa_cons h pa_nil hs
theorem se_len (hg : Gl X "len") (hm : X.mg "len" = none) (h : SH X a Φ e mh) (hK : X.K = a.K) (hs : starEach [e] X.env = (false, eval e X.env) :: starEach [] X.env) : SE X a Φ (.Call (.Name "len" p) [e] [] pos) (eLen mh) :=
  PE.imp (pe_callB (r := fun xs H Q => (∃ p ys, xs = [V.ref p] ∧ (SqL X.K H p ys ∨ SqT X.K H p ys) ∧ Q (.int ys.length) H) ∨ rLenD xs H Q ∨ rLenT2 xs H Q) call_lenA hg hm PySem.boot_len (sa_one h hs) (by decide) (by decide) hs rfl) fun σ H Q h => TR.one h fun w H s u x rx q => by
    obtain ⟨z, e, R, k⟩ := Sat.lk q
    unfold lenU at e
    split at e
    · rename_i t us e1
      cases e
      obtain ⟨p, vs, rfl, r, hs⟩ := seq_spec R rx e1
      rw [hK]
      exact .inl ⟨p, vs, rfl, hs.or, by rw [← r.length]; exact Out.now k R (.int _)⟩
    · split at e
      · rename_i t kvs e2
        cases e
        obtain ⟨p, rfl, d⟩ := dic_spec R rx e2
        cases d with
        | k h r => exact .inr (.inl ⟨p, _, rfl, h, by rw [← r.length]; exact Out.now k R (.int _)⟩)
        | t h r => exact .inr (.inr ⟨p, _, rfl, h, by rw [← r.length]; exact Out.now k R (.int _)⟩)
      · cases e
theorem se_tupleOf (hg : Gl X "tuple") (hm : X.mg "tuple" = none) (h : SH X a Φ e mh) (hK : X.K = a.K) (hs : starEach [e] X.env = (false, eval e X.env) :: starEach [] X.env) : SE X a Φ (.Call (.Name "tuple" p) [e] [] pos) (eTupleOf mh) :=
  PE.imp (pe_callTy call_tuple_of hg hm (by decide +kernel) (sa_one h hs) (by decide) (by decide) hs rfl) fun σ H Q h => TR.one h fun w H s u x rx q => by
    obtain ⟨z, e, R, k⟩ := Sat.lk q
    unfold tupleU at e
    split at e
    · rename_i t us e1
      cases e
      obtain ⟨p, vs, rfl, r, hs⟩ := seq_spec R rx e1
      rw [hK]
      refine ⟨p, vs, rfl, ?_⟩
      cases t with
      | false => exact .inl ⟨hs, fun l hl => k _ _ _ (Stp.new R hl) (R.new hl) (.tup (.inr rfl) upd_same (r.mono (Stp.new R hl)))⟩
      | true =>
        refine .inr ⟨hs, Out.now k R ?_⟩
        obtain ⟨us', e2⟩ : ∃ us', u = .u (.tup us') := by
          cases u with
          | sl i => simp only [seqOf] at e1; split at e1 <;> cases e1
          | u u =>
            cases u <;> simp only [seqOf] at e1 <;> first | (cases e1; done) | exact ⟨_, rfl⟩ | skip
            split at e1 <;> cases e1
        subst e2
        cases e1
        exact rx
    · cases e
theorem se_listOf (hg : Gl X "list") (hm : X.mg "list" = none) (h : SH X a Φ e mh) (hK : X.K = a.K) (hs : starEach [e] X.env = (false, eval e X.env) :: starEach [] X.env) : SE X a Φ (.Call (.Name "list" p) [e] [] pos) (eListOf mh) :=
  PE.imp (pe_callTy call_list_of hg hm (by decide +kernel) (sa_one h hs) (by decide) (by decide) hs rfl) fun σ H Q h => TR.one h fun w H s u x rx q => by
    obtain ⟨z, e, R, k⟩ := Sat.lk q
    unfold listU at e
    split at e
    · rename_i t us e1
      cases e
      obtain ⟨p, vs, rfl, r, hs⟩ := seq_spec R rx e1
      rw [hK]
      exact ⟨p, vs, rfl, hs.or, fun l hl => k _ _ _ (Stp.new R hl) (R.new hl) (.lst (.inr rfl) upd_same (r.mono (Stp.new R hl)))⟩
    · cases e
theorem se_int1 (hg : Gl X "int") (hm : X.mg "int" = none) (h : SE X a Φ e m) (hs : starEach [e] X.env = (false, eval e X.env) :: starEach [] X.env) : SE X a Φ (.Call (.Name "int" p) [e] [] pos) (eInt1 m) :=
  PE.imp (pe_callTy call_int1 hg hm (by decide +kernel) (pa_cons h pa_nil hs) (by decide) (by decide) hs rfl) fun σ H Q h => TR.one h fun w H s u x rx q => by
    obtain ⟨z, e, R, k⟩ := Sat.fin q
    cases u <;> simp only [int1] at e <;> first | (cases e; done) | skip
    · rename_i b
      cases rx; cases e
      exact .inr ⟨b, rfl, Out.now k R (.int _)⟩
    · cases rx; cases e
      exact .inl ⟨_, rfl, Out.now k R (.int _)⟩
theorem mm2_some {lt : Bool} {us : List U} {z : U} (e : mm2 lt us = some z) : ∃ i j, us = [.int i, .int j] ∧ z = .int (if lt = true then (if j < i then j else i) else if j > i then j else i) := by
  unfold mm2 at e
  split at e
  · cases e; exact ⟨_, _, rfl, rfl⟩
  · cases e
theorem se_min2 (hc : X.calm = true) (hg : Gl X "min") (hm : X.mg "min" = none) (h : SA X a Φ (e :: e1 :: es) ms) (hs : starEach (e :: e1 :: es) X.env = (false, eval e X.env) :: starEach (e1 :: es) X.env) (hpl : (backTo pos (starEach (e1 :: es) X.env)).any (·.1) = false) : SE X a Φ (.Call (.Name "min" p) (e :: e1 :: es) [] pos) (eMM2 true ms) :=
  PE.imp (pe_callB (call_min2 hc) hg hm (by decide +kernel) h (by decide) (by decide) hs hpl) fun σ H Q h => TR.one h fun w H s us vs r q => by
    obtain ⟨z, e, R, k⟩ := Sat.fin q
    obtain ⟨i, j, rfl, rfl⟩ := mm2_some e
    cases r with | cons r1 r => cases r with | cons r2 r => cases r; cases r1; cases r2; exact ⟨i, j, rfl, Out.now k R (.int _)⟩
theorem se_max2 (hc : X.calm = true) (hg : Gl X "max") (hm : X.mg "max" = none) (h : SA X a Φ (e :: e1 :: es) ms) (hs : starEach (e :: e1 :: es) X.env = (false, eval e X.env) :: starEach (e1 :: es) X.env) (hpl : (backTo pos (starEach (e1 :: es) X.env)).any (·.1) = false) : SE X a Φ (.Call (.Name "max" p) (e :: e1 :: es) [] pos) (eMM2 false ms) :=
  PE.imp (pe_callB (call_max2 hc) hg hm (by decide +kernel) h (by decide) (by decide) hs hpl) fun σ H Q h => TR.one h fun w H s us vs r q => by
    obtain ⟨z, e, R, k⟩ := Sat.fin q
    obtain ⟨i, j, rfl, rfl⟩ := mm2_some e
    cases r with | cons r1 r => cases r with | cons r2 r => cases r; cases r1; cases r2; exact ⟨i, j, rfl, Out.now k R (.int _)⟩
theorem sort_fst : ∀ (bs : List (U × V)), (bs.mergeSort fun b c => leU b.1 c.1).map (·.1) = (bs.map (·.1)).mergeSort leU := fun bs => PySem.W.sort_maps (fun b : U × V => b.1) fun _ _ _ _ => rfl
theorem RUs.zip {K : PySem.W.Frag} {cls : Cl} : ∀ {us : List U} {vs : List V}, RUs K cls w H us vs → (us.zip vs).map (·.1) = us ∧ (us.zip vs).map (·.2) = vs ∧ ∀ b ∈ us.zip vs, RU K cls w H b.1 b.2
  | _, _, .nil => ⟨rfl, rfl, fun b hb => by simp at hb⟩
  | _, _, .cons r t => by
    obtain ⟨h1, h2, h3⟩ := RUs.zip t
    refine ⟨by simp [h1], by simp [h2], fun b hb => ?_⟩
    rcases List.mem_cons.mp hb with rfl | hb
    · exact r
    · exact h3 b hb
theorem RUs.of_pairs {K : PySem.W.Frag} {cls : Cl} : ∀ {bs : List (U × V)}, (∀ b ∈ bs, RU K cls w H b.1 b.2) → RUs K cls w H (bs.map (·.1)) (bs.map (·.2))
  | [], _ => .nil
  | b :: bs, h => .cons (h b List.mem_cons_self) (RUs.of_pairs fun c hc => h c (List.mem_cons_of_mem _ hc))
theorem se_sorted (hu : X.A.units + 70 < cLine) (hg : Gl X "sorted") (hm : X.mg "sorted" = none) (h : SH X a Φ e mh) (hK : X.K = a.K) (hs : starEach [e] X.env = (false, eval e X.env) :: starEach [] X.env) : SE X a Φ (.Call (.Name "sorted" p) [e] [] pos) (eSorted mh) :=
  PE.imp (pe_callB (cr_sortD hu) hg hm (by decide +kernel) (sa_one h hs) (by decide) (by decide) hs rfl) fun σ H Q h => TR.one h fun w H s u x rx q => by
    obtain ⟨z, e, R, k⟩ := Sat.lk q
    unfold sortedU at e
    split at e
    · rename_i us e1
      obtain ⟨p, vs, rfl, r, hs⟩ := seq_spec R rx e1
      unfold sortU at e
      by_cases ho : sortOk us = true
      · rw [if_pos ho] at e; cases e
        unfold sortOk at ho
        simp only [Bool.and_eq_true, Bool.or_eq_true, List.all_eq_true, decide_eq_true_eq] at ho
        obtain ⟨⟨⟨h1, h2⟩, h3⟩, h4⟩ := ho
        obtain ⟨z1, z2, z3⟩ := r.zip
        have hm : ∀ b ∈ us.zip vs, b.1 ∈ us := fun b hb => (List.of_mem_zip hb).1
        have ee : (us.zip vs).map (fun b => dOf b.1) = us.map dOf := by
          have q := congrArg (List.map dOf) z1
          rw [List.map_map] at q
          exact q
        refine ⟨p, us.zip vs, rfl, by rw [z2, hK]; exact hs, fun b hb => ⟨?_, (dOf_some (h1 _ (hm b hb))).2⟩, ?_, ?_, fun l hl => ?_⟩
        · rw [hK]; exact (z3 b hb).dp (dOf_some (h1 _ (hm b hb))).1
        · rw [ee]
          intro d hd d' hd'
          obtain ⟨u, hu, rfl⟩ := List.mem_map.mp hd
          obtain ⟨u', hu', rfl⟩ := List.mem_map.mp hd'
          exact h2 u hu u' hu'
        · rw [ee]
          rcases h3 with h3 | h3
          · refine .inl fun d hd => ?_
            obtain ⟨u, hu, rfl⟩ := List.mem_map.mp hd
            have q := h3 u hu
            cases e : dOf u with
            | tuple xs =>
              cases xs with
              | nil => rw [e] at q; cases q
              | cons x r => exact ⟨x, r, rfl⟩
            | _ => rw [e] at q; cases q
          · refine .inr fun d hd => ?_
            obtain ⟨u, hu, rfl⟩ := List.mem_map.mp hd
            have q := h3 u hu
            exact ⟨fun z => (by rw [z] at q; cases q), fun xs z => (by rw [z] at q; cases q)⟩
        · refine k _ _ _ (Stp.new R hl) (R.new hl) (.lst (.inr rfl) upd_same ?_)
          have m1 : ∀ b ∈ (us.zip vs).mergeSort fun b c => leU b.1 c.1, RU a.K a.cls (w.more l) (upd H l (.lst (((us.zip vs).mergeSort fun b c => leU b.1 c.1).map (·.2)))) b.1 b.2 := fun b hb => (z3 b ((List.mergeSort_perm _ _).mem_iff.mp hb)).mono (Stp.new R hl)
          have m2 := RUs.of_pairs m1
          rw [sort_fst, z1] at m2
          exact m2
      · rw [if_neg ho] at e; cases e
    · cases e
end
end EL
set_option Elab.async false
set_option linter.all false
set_option maxRecDepth 100000
/-! EC6: fresh lists and dicts; statements; targets. -/
namespace EL
open PySem PySem.Spec PyProof.Rows L2

inductive Fl where
  | nx | rt (u : U) | bk | ct

section
variable {a : Act} {w : W} {env : List SV} {hp : List EO} {σ : L2.St} {H : Hp} {s : S} {p : Addr}

/-! ### slots are set -/
theorem set_other {α : Type} {l : List α} {i j : Nat} {x y : α} (hj : j ≠ i) (e : (l.set i x)[j]? = some y) : l[j]? = some y := by
  rw [List.getElem?_set_ne (Ne.symm hj)] at e; exact e
/-- a slot gets a value -/
theorem Rel.setV (R : Rel a w env hp σ H) {i : Nat} {u : U} {v : V} (r : RU a.K a.cls w H u v) : Rel a w (env.set i (.val u)) hp (σ.set i (some v)) H := by
  have key : ∀ {j : Nat} {t : SV}, (env.set i (.val u))[j]? = some t → isOwn t = true → j ≠ i ∧ env[j]? = some t := fun {j t} e h => by
    by_cases hj : j = i
    · subst hj
      have il : j < env.length := by have := (List.getElem?_eq_some_iff.mp e).1; rw [List.length_set] at this; exact this
      rw [List.getElem?_set_self il] at e; cases e; cases h
    · exact ⟨hj, set_other hj e⟩
  refine ⟨by rw [List.length_set, List.length_set]; exact R.len, fun j t e => ?_, fun j t q e h hq => ?_, fun j k t t' q e h hq e' h' hq' => ?_, R.clen, R.cnd, R.cell, R.cellF, R.cell0, R.pre, R.frame, R.frz, R.F0, R.Fpre, R.tab, R.tabF⟩
  · by_cases hj : j = i
    · subst hj
      have il : j < env.length := by have := (List.getElem?_eq_some_iff.mp e).1; rw [List.length_set] at this; exact this
      rw [List.getElem?_set_self il] at e; cases e
      rw [List.getElem?_set_self (by rw [← R.len]; exact il)]
      exact ⟨v, rfl, r⟩
    · rw [List.getElem?_set_ne (Ne.symm hj)]
      exact R.slot j t (set_other hj e)
  · obtain ⟨hj, e1⟩ := key e h
    exact R.own j t q e1 h (set_other hj hq)
  · obtain ⟨hj, e1⟩ := key e h
    obtain ⟨hk, e2⟩ := key e' h'
    exact R.apart j k t t' q e1 h (set_other hj hq) e2 h' (set_other hk hq')
/-- a slot is emptied -/
theorem Rel.wipeV (R : Rel a w env hp σ H) {i : Nat} {v : Option V} : Rel a w (env.set i .no) hp (σ.set i v) H := by
  have key : ∀ {j : Nat} {t : SV}, (env.set i .no)[j]? = some t → isOwn t = true → j ≠ i ∧ env[j]? = some t := fun {j t} e h => by
    by_cases hj : j = i
    · subst hj
      have il : j < env.length := by have := (List.getElem?_eq_some_iff.mp e).1; rw [List.length_set] at this; exact this
      rw [List.getElem?_set_self il] at e; cases e; cases h
    · exact ⟨hj, set_other hj e⟩
  refine ⟨by rw [List.length_set, List.length_set]; exact R.len, fun j t e => ?_, fun j t q e h hq => ?_, fun j k t t' q e h hq e' h' hq' => ?_, R.clen, R.cnd, R.cell, R.cellF, R.cell0, R.pre, R.frame, R.frz, R.F0, R.Fpre, R.tab, R.tabF⟩
  · by_cases hj : j = i
    · subst hj
      have il : j < env.length := by have := (List.getElem?_eq_some_iff.mp e).1; rw [List.length_set] at this; exact this
      rw [List.getElem?_set_self il] at e; cases e
      trivial
    · rw [List.getElem?_set_ne (Ne.symm hj)]
      exact R.slot j t (set_other hj e)
  · obtain ⟨hj, e1⟩ := key e h
    exact R.own j t q e1 h (set_other hj hq)
  · obtain ⟨hj, e1⟩ := key e h
    obtain ⟨hk, e2⟩ := key e' h'
    exact R.apart j k t t' q e1 h (set_other hj hq) e2 h' (set_other hk hq')

/-! ### a fresh object, not yet anybody's: the last slot of a longer row -/
def Pend (a : Act) (w : W) (env : List SV) (hp : List EO) (σ : L2.St) (H : Hp) (sv : SV) (p : Addr) : Prop :=
  isOwn sv = true ∧ Rel a w (env ++ [sv]) hp (σ ++ [some (.ref p)]) H
theorem app_last {α : Type} {l : List α} {x : α} : (l ++ [x])[l.length]? = some x := by simp
theorem app_old {α : Type} {l : List α} {x y : α} {i : Nat} (h : l[i]? = some y) : (l ++ [x])[i]? = some y := by
  have hl := (List.getElem?_eq_some_iff.mp h).1
  rw [List.getElem?_append_left hl]; exact h
theorem app_some {α : Type} {l : List α} {x y : α} {i : Nat} (h : (l ++ [x])[i]? = some y) : l[i]? = some y ∨ i = l.length ∧ y = x := by
  by_cases hl : i < l.length
  · rw [List.getElem?_append_left hl] at h; exact .inl h
  · rw [List.getElem?_append_right (by omega)] at h
    have : i - l.length = 0 := by
      cases q : i - l.length with
      | zero => rfl
      | succ n => rw [q] at h; simp at h
    rw [this] at h
    exact .inr ⟨by omega, by simpa using h.symm⟩
/-- without the last slot -/
theorem Rel.unpend {sv : SV} {v : Option V} (R : Rel a w (env ++ [sv]) hp (σ ++ [v]) H) : Rel a w env hp σ H := by
  have hl : env.length = σ.length := by have := R.len; simpa using this
  have hσ : ∀ {i : Nat} {t : SV}, env[i]? = some t → (σ ++ [v])[i]? = σ[i]? := fun {i t} e => by
    have := (List.getElem?_eq_some_iff.mp e).1
    rw [List.getElem?_append_left (by omega)]
  refine ⟨hl, fun i t e => ?_, fun i t q e h hq => ?_, fun i j t t' q e h hq e' h' hq' => ?_, R.clen, R.cnd, R.cell, R.cellF, R.cell0, R.pre, R.frame, R.frz, R.F0, R.Fpre, R.tab, R.tabF⟩
  · have q := R.slot i t (app_old e)
    rw [hσ e] at q; exact q
  · exact R.own i t q (app_old e) h (app_old hq)
  · exact R.apart i j t t' q (app_old e) h (app_old hq) (app_old e') h' (app_old hq')
theorem Rel.slot_mono {s0 : SV} {x : Option (Option V)} {w' : W} {H' : Hp} (st : Stp w H w' H') (h : SlotOk a.K a.cls w H s0 x) (hk : isOwn s0 = true → ∀ q, x = some (some (.ref q)) → H' q = H q) : SlotOk a.K a.cls w' H' s0 x := SlotOk.mono st h hk
/-- a new object becomes pending -/
theorem Rel.pend (R : Rel a w env hp σ H) {sv : SV} {o : HO} (h : H p = none) (ho : isOwn sv = true) (hs : SlotOk a.K a.cls w (upd H p o) sv (some (some (.ref p)))) : Pend a w env hp σ (upd H p o) sv p ∧ Stp w H w (upd H p o) := by
  have ne : ∀ {x : Addr}, H x ≠ none → x ≠ p := fun hx z => hx (by rw [z]; exact h)
  have st : Stp w H w (upd H p o) := ⟨fun _ h => h, fun _ _ h => h, fun x hx => upd_ne (ne (R.frz x hx))⟩
  have own' : ∀ {i : Nat} {s : SV} {q : Addr}, env[i]? = some s → isOwn s = true → σ[i]? = some (some (.ref q)) → q ≠ p := fun {i s q} e h hq => by
    obtain ⟨q', h1, h2⟩ := R.slot_there e h
    rw [h1] at hq; cases hq
    exact ne h2
  have hl := R.len
  have old : ∀ {i : Nat} {s : SV}, env[i]? = some s → (σ ++ [some (V.ref p)])[i]? = σ[i]? := fun {i s} e => by
    have := (List.getElem?_eq_some_iff.mp e).1
    rw [List.getElem?_append_left (by omega)]
  have last : (σ ++ [some (V.ref p)])[env.length]? = some (some (.ref p)) := by rw [hl]; exact app_last
  refine ⟨⟨ho, ⟨by simp [hl], fun i s e => ?_, fun i s q e h hq => ?_, fun i j s t q e h hq e' h' hq' => ?_, R.clen, R.cnd, fun i u q hi hq => ?_, R.cellF, R.cell0, R.pre, fun x u hx hm ht => ?_, fun x hx => ?_, R.F0, R.Fpre, R.tab_upd h, R.tabF⟩⟩, st⟩
  · rcases app_some e with e | ⟨rfl, rfl⟩
    · rw [old e]
      exact (R.slot i s e).mono st fun h q hq => upd_ne (own' e h hq)
    · rw [last]; exact hs
  · rcases app_some e with e | ⟨rfl, rfl⟩
    · rw [old e] at hq; exact R.own i s q e h hq
    · rw [last] at hq; cases hq
      exact ⟨fun z => ne (R.frz _ z) rfl, fun z => ne (R.cell_there z) rfl, R.fresh0 (by assumption)⟩
  · rcases app_some e with e1 | ⟨z1, z2⟩
    · rw [old e1] at hq
      rcases app_some e' with e2 | ⟨z1, z2⟩
      · rw [old e2] at hq'; exact R.apart i j s t q e1 h hq e2 h' hq'
      · rw [z1, last] at hq'; cases hq'
        exact absurd rfl (own' e1 h hq)
    · rw [z1, last] at hq; cases hq
      rcases app_some e' with e2 | ⟨z3, z4⟩
      · rw [old e2] at hq'; exact absurd rfl (own' e2 h' hq')
      · rw [z1, z3]
  · exact (R.cell i u q hi hq).mono st (upd_ne (ne (R.cell_there (List.mem_of_getElem? hq))))
  · rw [upd_ne (ne (by rw [R.frame x u hx hm ht]; exact fun z => nomatch z))]
    exact R.frame x u hx hm ht
  · rw [upd_ne (ne (R.frz x hx))]; exact R.frz x hx
/-- a pending object goes to a slot -/
theorem Pend.store {sv : SV} (P : Pend a w env hp σ H sv p) (i : Nat) : Rel a w (env.set i sv) hp (σ.set i (some (.ref p))) H := by
  obtain ⟨ho, R⟩ := P
  have hl : env.length = σ.length := by have := R.len; simpa using this
  have last : (σ ++ [some (V.ref p)])[env.length]? = some (some (.ref p)) := by rw [hl]; exact app_last
  have le : (env ++ [sv])[env.length]? = some sv := app_last
  have hs := R.slot env.length sv le
  rw [last] at hs
  have old : ∀ {j : Nat} {t : SV}, env[j]? = some t → (σ ++ [some (V.ref p)])[j]? = σ[j]? := fun {j t} e => by
    have := (List.getElem?_eq_some_iff.mp e).1
    rw [List.getElem?_append_left (by omega)]
  have key : ∀ {j : Nat} {t : SV}, (env.set i sv)[j]? = some t → (j = i ∧ t = sv ∧ i < env.length) ∨ (j ≠ i ∧ env[j]? = some t) := fun {j t} e => by
    by_cases hj : j = i
    · subst hj
      have il : j < env.length := by have := (List.getElem?_eq_some_iff.mp e).1; rw [List.length_set] at this; exact this
      rw [List.getElem?_set_self il] at e; cases e
      exact .inl ⟨rfl, rfl, il⟩
    · exact .inr ⟨hj, set_other hj e⟩
  refine ⟨by rw [List.length_set, List.length_set]; exact hl, fun j t e => ?_, fun j t q e h hq => ?_, fun j k t t' q e h hq e' h' hq' => ?_, R.clen, R.cnd, R.cell, R.cellF, R.cell0, R.pre, R.frame, R.frz, R.F0, R.Fpre, R.tab, R.tabF⟩
  · rcases key e with ⟨rfl, rfl, il⟩ | ⟨hj, e1⟩
    · rw [List.getElem?_set_self (by omega)]; exact hs
    · rw [List.getElem?_set_ne (Ne.symm hj), ← old e1]
      exact R.slot j t (app_old e1)
  · rcases key e with ⟨rfl, rfl, il⟩ | ⟨hj, e1⟩
    · rw [List.getElem?_set_self (by omega)] at hq; cases hq
      exact R.own env.length _ _ le h last
    · exact R.own j t q (app_old e1) h (app_old (set_other hj hq))
  · rcases key e with ⟨rfl, rfl, il⟩ | ⟨hj, e1⟩
    · rw [List.getElem?_set_self (by omega)] at hq; cases hq
      rcases key e' with ⟨rfl, rfl, il'⟩ | ⟨hk, e2⟩
      · rfl
      · have z := R.apart env.length k _ t' _ le h last (app_old e2) h' (app_old (set_other hk hq'))
        have := (List.getElem?_eq_some_iff.mp e2).1
        omega
    · rcases key e' with ⟨rfl, rfl, il'⟩ | ⟨hk, e2⟩
      · rw [List.getElem?_set_self (by omega)] at hq'; cases hq'
        have z := R.apart env.length j _ t _ le h' last (app_old e1) h (app_old (set_other hj hq))
        have := (List.getElem?_eq_some_iff.mp e1).1
        omega
      · exact R.apart j k t t' q (app_old e1) h (app_old (set_other hj hq)) (app_old e2) h' (app_old (set_other hk hq'))
/-- a pending list is frozen -/
theorem Pend.freezeL {us : List U} (P : Pend a w env hp σ H (.ol us) p) : Rel a (w.more p) env hp σ H ∧ Stp w H (w.more p) H ∧ RU a.K a.cls (w.more p) H (.lst us) (.ref p) := by
  obtain ⟨ho, R⟩ := P
  have hl : env.length = σ.length := by have := R.len; simpa using this
  have last : (σ ++ [some (V.ref p)])[env.length]? = some (some (.ref p)) := by rw [hl]; exact app_last
  have le : (env ++ [SV.ol us])[env.length]? = some (.ol us) := app_last
  obtain ⟨q, h1, h2⟩ := R.slot env.length _ le
  rw [last] at h1; cases h1
  cases h2 with
  | lst h3 r =>
    have ru : RU a.K a.cls (w.more p) H (.lst us) (.ref p) := .lst (.inr rfl) h3 (r.mono Stp.more)
    have F := R.freeze (H' := H) le rfl last (by rw [h3]; exact fun z => nomatch z) (fun _ _ => rfl) ru
    have e : (env ++ [SV.ol us]).set env.length (.val (.lst us)) = env ++ [.val (.lst us)] := by simp
    rw [e] at F
    exact ⟨F.1.unpend, F.2, ru⟩
theorem Pend.freezeD {t : Bool} {us : List (U × U)} (P : Pend a w env hp σ H (.od t us) p) : ∃ u, H p = some u ∧ isDic u = true ∧ ∀ o, Rel a (w.more p) env hp σ (upd H p (.frz o u)) ∧ Stp w H (w.more p) (upd H p (.frz o u)) ∧ RU a.K a.cls (w.more p) (upd H p (.frz o u)) (.dic t us) (.ref p) := by
  obtain ⟨ho, R⟩ := P
  have hl : env.length = σ.length := by have := R.len; simpa using this
  have last : (σ ++ [some (V.ref p)])[env.length]? = some (some (.ref p)) := by rw [hl]; exact app_last
  have le : (env ++ [SV.od t us])[env.length]? = some (.od t us) := app_last
  obtain ⟨q, h1, h2⟩ := R.slot env.length _ le
  rw [last] at h1; cases h1
  obtain ⟨o1, o2, o3⟩ := R.own env.length _ p le rfl last
  have st : ∀ z, Stp w H (w.more p) (upd H p z) := fun z => ⟨fun _ h => .inl h, fun _ _ h => h, fun x hx => upd_ne fun z => o1 (z ▸ hx)⟩
  have e : (env ++ [SV.od t us]).set env.length (.val (.dic t us)) = env ++ [.val (.dic t us)] := by simp
  cases h2 with
  | dicK h3 r =>
    refine ⟨_, h3, rfl, fun o => ?_⟩
    have ru : RU a.K a.cls (w.more p) (upd H p (.frz o _)) (.dic false us) (.ref p) := .dicK (.inr rfl) upd_same (r.mono (st _))
    have F := R.freeze le rfl last (by rw [upd_same]; exact fun z => nomatch z) upd_out ru
    rw [e] at F
    exact ⟨F.1.unpend, F.2, ru⟩
  | dicT h3 r =>
    refine ⟨_, h3, rfl, fun o => ?_⟩
    have ru : RU a.K a.cls (w.more p) (upd H p (.frz o _)) (.dic true us) (.ref p) := .dicT (.inr rfl) upd_same (r.mono (st _))
    have F := R.freeze le rfl last (by rw [upd_same]; exact fun z => nomatch z) upd_out ru
    rw [e] at F
    exact ⟨F.1.unpend, F.2, ru⟩
def cellOf : SV → Option EO
  | .ol us => some (.lst us)
  | .od t us => some (.dic t us)
  | _ => none
/-- a pending object becomes a cell -/
theorem Pend.cell {sv : SV} {eo : EO} (P : Pend a w env hp σ H sv p) (e : cellOf sv = some eo) : Rel a ⟨w.F, w.ρ ++ [p]⟩ env (hp ++ [eo]) σ H ∧ Stp w H ⟨w.F, w.ρ ++ [p]⟩ H ∧ RU a.K a.cls ⟨w.F, w.ρ ++ [p]⟩ H (.ref hp.length) (.ref p) := by
  obtain ⟨ho, R⟩ := P
  have hl : env.length = σ.length := by have := R.len; simpa using this
  have last : (σ ++ [some (V.ref p)])[env.length]? = some (some (.ref p)) := by rw [hl]; exact app_last
  have le : (env ++ [sv])[env.length]? = some sv := app_last
  have hs := R.slot env.length _ le
  rw [last] at hs
  obtain ⟨o1, o2, o3⟩ := R.own env.length _ p le ho last
  have st : Stp w H ⟨w.F, w.ρ ++ [p]⟩ H := ⟨fun _ h => h, fun i q h => app_old h, fun _ _ => rfl⟩
  have oc : OC a.K a.cls w H eo p := by
    cases sv with
    | no => cases e
    | val u => cases e
    | ol us => obtain ⟨q, h1, h2⟩ := hs; cases h1; cases e; exact h2
    | od t us => obtain ⟨q, h1, h2⟩ := hs; cases h1; cases e; exact h2
  have old : ∀ {j : Nat} {t : SV}, env[j]? = some t → (σ ++ [some (V.ref p)])[j]? = σ[j]? := fun {j t} e => by
    have := (List.getElem?_eq_some_iff.mp e).1
    rw [List.getElem?_append_left (by omega)]
  refine ⟨⟨hl, fun i s e => ?_, fun i s q e h hq => ?_, fun i j s t q e h hq e' h' hq' => R.apart i j s t q (app_old e) h (app_old hq) (app_old e') h' (app_old hq'), by simp [R.clen], ?_, fun i o q hi hq => ?_, fun i o q hi hq hz => ?_, fun q hq => ?_, fun i q h => app_old (R.pre i q h), R.frame, R.frz, R.F0, R.Fpre, R.tab, R.tabF⟩, st, .ref (by rw [← R.clen]; exact app_last)⟩
  · rw [← old e]; exact (R.slot i s (app_old e)).mono st fun _ _ _ => rfl
  · obtain ⟨q1, q2, q3⟩ := R.own i s q (app_old e) h (app_old hq)
    refine ⟨q1, fun z => ?_, q3⟩
    rcases List.mem_append.mp z with z | z
    · exact q2 z
    · simp at z
      subst z
      have z := R.apart i env.length s sv q (app_old e) h (app_old hq) le ho last
      have := (List.getElem?_eq_some_iff.mp e).1
      omega
  · rw [List.nodup_append]
    refine ⟨R.cnd, by simp, fun x hx y hy => ?_⟩
    simp at hy; subst hy
    exact fun z => o2 (z ▸ hx)
  · rcases app_some hi with hi | ⟨rfl, rfl⟩
    · have hlt := (List.getElem?_eq_some_iff.mp hi).1
      have hq' : w.ρ[i]? = some q := by
        rw [List.getElem?_append_left (by rw [R.clen]; exact hlt)] at hq; exact hq
      exact (R.cell i o q hi hq').mono st rfl
    · have : (w.ρ ++ [p])[w.ρ.length]? = some p := app_last
      rw [R.clen, hq] at this; cases this
      exact oc.mono st rfl
  · rcases app_some hi with hi | ⟨rfl, rfl⟩
    · have hlt := (List.getElem?_eq_some_iff.mp hi).1
      have hq' : w.ρ[i]? = some q := by
        rw [List.getElem?_append_left (by rw [R.clen]; exact hlt)] at hq; exact hq
      exact R.cellF i o q hi hq' hz
    · have : (w.ρ ++ [p])[w.ρ.length]? = some p := app_last
      rw [R.clen, hq] at this; cases this
      exact o1
  · rcases List.mem_append.mp hq with z | z
    · exact R.cell0 q z
    · simp at z; subst z; exact .inr o3
end
end EL
set_option Elab.async false
set_option linter.all false
set_option maxRecDepth 100000
/-! EC7: statements. -/
namespace EL
open PySem PySem.Spec PyProof.Rows L2

def FlOk (a : Act) (f : Fl) (D : Ends) (w : W) (σ : L2.St) (H : Hp) : Prop := match f with
  | .nx => D.nx σ H
  | .rt u => ∀ v, RU a.K a.cls w H u v → D.rt v H
  | .bk => D.bk σ H
  | .ct => D.ct σ H
def OutS (a : Act) (w : W) (H : Hp) (s : S) (f : Fl) (D : Ends) : Prop := ∀ (w' : W) (H' : Hp) (σ' : L2.St), Stp w H w' H' → Rel a w' s.env s.hp σ' H' → FlOk a f D w' σ' H'
def SatS (a : Act) (Φ : Phi) (w : W) (σ : L2.St) (H : Hp) (s : S) (m : M Fl) (D : Ends) : Prop :=
  Rel a w s.env s.hp σ H ∧ match m Φ s with
    | none => False
    | some (.ok f s') => OutS a w H s' f D
    | some (.ex c f v s') => XOut a w H s' c f v
def TSs (a : Act) (Φ : Phi) (m : M Fl) : TS := fun D σ H => ∃ w s, SatS a Φ w σ H s m D
def SS (X : Cx) (a : Act) (Φ : Phi) (st : Stmt) (m : M Fl) : Prop := PS X st (TSs a Φ m)
def SB (X : Cx) (a : Act) (Φ : Phi) (st : List Stmt) (m : M Fl) : Prop := PSs X st (TSs a Φ m)
/-- a fresh object -/
def TRO (a : Act) (Φ : Phi) (m : M SV) : TE := fun σ H Q => ∃ w s, Rel a w s.env s.hp σ H ∧ match m Φ s with
    | none => False
    | some (.ok sv s') => ∀ (w' : W) (H' : Hp) (p : Addr), Stp w H w' H' → Pend a w' s'.env s'.hp σ H' sv p → Q (.ref p) H'
    | some (.ex c f v s') => XOut a w H s' c f v
def SO (X : Cx) (a : Act) (Φ : Phi) (e : Expr) (m : M SV) : Prop := PE X e (TRO a Φ m)

def sSeq (m1 m2 : M Fl) : M Fl := bnd m1 fun f => match f with
  | .nx => m2
  | f => ret f
def sNext : M Fl := ret .nx
def sBreak : M Fl := ret .bk
def sCont : M Fl := ret .ct
def sExpr (m : M U) : M Fl := bnd m fun _ => ret .nx
def sRet (m : M U) : M Fl := bnd m fun u => ret (.rt u)
def sRetN : M Fl := ret (.rt .non)
def sIf (t : M Bool) (m1 m2 : M Fl) : M Fl := bnd t fun b => if b = true then m1 else m2
def store (i : Nat) (sv : SV) : M Fl := fun _ s => if i < s.env.length then some (.ok .nx (setE s i sv)) else none
def sSet (i : Nat) (m : M U) : M Fl := bnd m fun u => store i (.val u)
def sOwn (i : Nat) (m : M SV) : M Fl := bnd m fun sv => store i sv
def oLst (ms : M (List U)) : M SV := bnd ms fun us => ofO (if us.length ≤ line then some (.ol us) else none)
def oDic (t : Bool) : M SV := ret (.od t [])
def eFz (m : M SV) : M U := bnd m fun sv => match sv with
  | .ol us => ret (.lst us)
  | .od t kvs => ret (.dic t kvs)
  | _ => fail
def eCell (m : M SV) : M U := bnd m fun sv => match cellOf sv with
  | some eo => fun _ s => some (.ok (.ref s.hp.length) ⟨s.env, s.hp ++ [eo]⟩)
  | none => fail

section
variable {α β : Type} {a : Act} {Φ : Phi} {w : W} {σ : L2.St} {H : Hp} {s : S}
theorem OutS.step {w' : W} {H' : Hp} {f : Fl} {D : Ends} (h : OutS a w H s f D) (st : Stp w H w' H') : OutS a w' H' s f D := fun w2 H2 σ2 st2 R => h w2 H2 σ2 (st.trans st2) R
theorem SatS.here {f : Fl} {D : Ends} (h : SatS a Φ w σ H s (ret f) D) : FlOk a f D w σ H := h.2 w H σ Stp.refl h.1
theorem SatS.run {f : M Fl} {D : Ends} {w' : W} {H' : Hp} {s' : S} {σ' : L2.St} (R : Rel a w' s'.env s'.hp σ' H') (h : match f Φ s' with
    | none => False
    | some (.ok z s2) => OutS a w H s2 z D
    | some (.ex c g v s2) => XOut a w H s2 c g v) (st : Stp w H w' H') : SatS a Φ w' σ' H' s' f D := by
  refine ⟨R, ?_⟩
  cases e2 : f Φ s' with
  | none => rw [e2] at h; exact h
  | some r2 =>
    rw [e2] at h
    cases r2 with
    | ok z s2 => exact OutS.step h st
    | ex c g v s2 => exact XOut.step h st
/-- an expression, then a statement -/
theorem TSs.one {m : M α} {k : α → M Fl} {r1 : W → Hp → α → β → Prop} {D : Ends} {P : β → Hp → Prop} (h : TSs a Φ (bnd m k) D σ H)
    (f : ∀ (w : W) (H : Hp) (s : S) (x : α) (y : β), r1 w H x y → SatS a Φ w σ H s (k x) D → P y H) : TR a Φ m r1 σ H P := by
  obtain ⟨w, s, R, h⟩ := h
  refine ⟨w, s, R, ?_⟩
  unfold bnd at h
  cases e : m Φ s with
  | none => rw [e] at h; exact h.elim
  | some r =>
    rw [e] at h
    cases r with
    | ex c g v s' => exact h
    | ok x s' => exact fun w1 H1 y st R1 rx => f w1 H1 s' x y rx (SatS.run R1 h st)
theorem TSs.own {m : M SV} {k : SV → M Fl} {D : Ends} {P : V → Hp → Prop} (h : TSs a Φ (bnd m k) D σ H)
    (f : ∀ (w : W) (H : Hp) (s : S) (sv : SV) (p : Addr), Pend a w s.env s.hp σ H sv p → SatS a Φ w σ H s (k sv) D → P (.ref p) H) : TRO a Φ m σ H P := by
  obtain ⟨w, s, R, h⟩ := h
  refine ⟨w, s, R, ?_⟩
  unfold bnd at h
  cases e : m Φ s with
  | none => rw [e] at h; exact h.elim
  | some r =>
    rw [e] at h
    cases r with
    | ex c g v s' => exact h
    | ok x s' => exact fun w1 H1 p st P1 => f w1 H1 s' x p P1 (SatS.run P1.2.unpend h st)
theorem TR.own {γ δ : Type} {m : M SV} {k : SV → M γ} {r : W → Hp → γ → δ → Prop} {Q : δ → Hp → Prop} {P : V → Hp → Prop} (h : TR a Φ (EL.bnd m k) r σ H Q)
    (f : ∀ (w : W) (H : Hp) (s : S) (sv : SV) (p : Addr), Pend a w s.env s.hp σ H sv p → Sat a Φ w σ H s (k sv) r Q → P (.ref p) H) : TRO a Φ m σ H P := by
  obtain ⟨w, s, R, h⟩ := h
  refine ⟨w, s, R, ?_⟩
  unfold EL.bnd at h
  cases e : m Φ s with
  | none => rw [e] at h; exact h.elim
  | some z =>
    rw [e] at h
    cases z with
    | ex c g v s' => exact h
    | ok x s' =>
      intro w1 H1 p st P1
      refine f w1 H1 s' x p P1 ⟨P1.2.unpend, ?_⟩
      have h' : match k x Φ s' with
        | none => False
        | some (.ok z s2) => Out a w σ H s2 r z Q
        | some (.ex c g v s2) => XOut a w H s2 c g v := h
      cases e2 : k x Φ s' with
      | none => rw [e2] at h'; exact h'
      | some z2 =>
        rw [e2] at h'
        cases z2 with
        | ok z s2 => exact h'.step st
        | ex c g v s2 => exact h'.step st
theorem TRO.one {γ δ : Type} {m : M γ} {k : γ → M SV} {r : W → Hp → γ → δ → Prop} {Q : V → Hp → Prop} {P : δ → Hp → Prop} (h : TRO a Φ (bnd m k) σ H Q)
    (f : ∀ (w : W) (H : Hp) (s : S) (x : γ) (y : δ), r w H x y → Rel a w s.env s.hp σ H → (match k x Φ s with
      | none => False
      | some (.ok sv s') => ∀ (w' : W) (H' : Hp) (p : Addr), Stp w H w' H' → Pend a w' s'.env s'.hp σ H' sv p → Q (.ref p) H'
      | some (.ex c f v s') => XOut a w H s' c f v) → P y H) : TR a Φ m r σ H P := by
  obtain ⟨w, s, R, h⟩ := h
  refine ⟨w, s, R, ?_⟩
  unfold bnd at h
  cases e : m Φ s with
  | none => rw [e] at h; exact h.elim
  | some z =>
    rw [e] at h
    cases z with
    | ex c g v s' => exact h
    | ok x s' =>
      intro w1 H1 y st R1 rx
      refine f w1 H1 s' x y rx R1 ?_
      have h' : match k x Φ s' with
        | none => False
        | some (.ok sv s2) => ∀ (w' : W) (H' : Hp) (p : Addr), Stp w H w' H' → Pend a w' s2.env s2.hp σ H' sv p → Q (.ref p) H'
        | some (.ex c g v s2) => XOut a w H s2 c g v := h
      cases e2 : k x Φ s' with
      | none => rw [e2] at h'; exact h'
      | some z2 =>
        rw [e2] at h'
        cases z2 with
        | ok z s2 => exact fun w2 H2 p st2 P2 => h' w2 H2 p (st.trans st2) P2
        | ex c g v s2 => exact XOut.step h' st
end

/-! ### freezing, cells, fresh displays -/
def tFz (t : TE) : TE := fun σ H Q => t σ H fun v H1 => Q v H1 ∨ ∃ p u, v = .ref p ∧ H1 p = some u ∧ isDic u = true ∧ ∀ o, Q v (upd H1 p (.frz o u))
theorem PE.fz {X : Cx} {e : Expr} {t : TE} (h : PE X e t) : PE X e (tFz t) := by
  refine ⟨fun pins s σ H Q I q => ?_⟩
  refine thn (h.run pins s σ H _ I q) fun u s1 ⟨v, H1, I1, r1, q1⟩ => ?_
  rcases q1 with q1 | ⟨p, u', e1, h3, h4, q1⟩
  · exact ⟨v, H1, I1, r1, q1⟩
  · obtain ⟨o, I2⟩ := Inv.frz I1 h3 h4
    exact ⟨v, _, I2, r1, q1 o⟩
section
variable {a : Act} {X : Cx} {Φ : Phi} {e : Expr} {es : List Expr} {ms : M (List U)} {m : M U} {mo : M SV} {pos : Pos}
theorem se_fz (h : SO X a Φ e mo) : SE X a Φ e (eFz mo) :=
  PE.imp (PE.fz h) fun σ H Q q => TR.own q fun w H s sv p P k => by
    cases sv with
    | no => exact k.2.elim
    | val u => exact k.2.elim
    | ol us =>
      obtain ⟨R, st, r⟩ := P.freezeL
      exact .inl (Sat.ret k _ _ _ st R r)
    | od t kvs =>
      obtain ⟨u, h1, h2, h3⟩ := P.freezeD
      refine .inr ⟨p, u, rfl, h1, h2, fun o => ?_⟩
      obtain ⟨R, st, r⟩ := h3 o
      exact Sat.ret k _ _ _ st R r
theorem se_cell (h : SO X a Φ e mo) : SE X a Φ e (eCell mo) :=
  PE.imp h fun σ H Q q => TR.own q fun w H s sv p P k => by
    cases e : cellOf sv with
    | none => rw [e] at k; exact k.2.elim
    | some eo =>
      rw [e] at k
      obtain ⟨R, st, r⟩ := P.cell e
      exact k.2 _ _ _ st R r
theorem so_lst (h : SA X a Φ es ms) : SO X a Φ (.List es pos) (oLst ms) :=
  PE.imp (pe_lst h) fun σ H Q q => TRO.one q fun w H s us vs r R k => by
    unfold ofO at k
    by_cases hl : us.length ≤ line
    · rw [if_pos hl] at k
      refine ⟨by rw [← r.length]; exact hl, fun p hp => ?_⟩
      have st : Stp w H w (upd H p (.lst vs)) := ⟨fun _ h => h, fun _ _ h => h, fun x hx => upd_ne fun z => R.frz x hx (by rw [z]; exact hp)⟩
      obtain ⟨P, st⟩ := R.pend (sv := .ol us) (o := .lst vs) hp rfl ⟨p, rfl, .lst upd_same (r.mono st)⟩
      exact k _ _ _ st P
    · rw [if_neg hl] at k; exact k.elim
theorem so_dicK : SO X a Φ (.Dict [] [] pos) (oDic false) :=
  PE.imp pe_dnewK fun σ H Q ⟨w, s, R, k⟩ => fun p hp => by
    obtain ⟨P, st⟩ := R.pend (sv := .od false []) (o := .dK []) hp rfl ⟨p, rfl, .dicK upd_same .nil⟩
    exact k _ _ _ st P
theorem so_dicT : SO X a Φ (.Dict [] [] pos) (oDic true) :=
  PE.imp pe_dnewT fun σ H Q ⟨w, s, R, k⟩ => fun p hp => by
    obtain ⟨P, st⟩ := R.pend (sv := .od true []) (o := .dT []) hp rfl ⟨p, rfl, .dicT upd_same .nil⟩
    exact k _ _ _ st P
end

/-! ### statements -/
section
variable {a : Act} {X : Cx} {Φ : Phi} {e : Expr} {st : Stmt} {sts sts' : List Stmt} {m : M U} {mo : M SV} {t : M Bool} {m1 m2 : M Fl} {pos pos' : Pos} {i : Nat} {x : Str}
theorem sb_nil : SB X a Φ [] sNext := PSs.imp (t := tNext) pss_nil fun D σ H ⟨w, s, h⟩ => SatS.here h
theorem sb_one (h : SS X a Φ st m1) : SB X a Φ [st] m1 := pss_one h
theorem sb_cons (h1 : SS X a Φ st m1) (h2 : SB X a Φ sts m2) : SB X a Φ (st :: sts) (sSeq m1 m2) :=
  PSs.imp (t := tSeq (TSs a Φ m1) (TSs a Φ m2)) (pss_cons h1 h2) fun D σ H ⟨w, s, R, h⟩ => by
    refine ⟨w, s, R, ?_⟩
    unfold sSeq bnd at h
    cases e : m1 Φ s with
    | none => rw [e] at h; exact h.elim
    | some z =>
      rw [e] at h
      cases z with
      | ex c g v s' => exact h
      | ok f s' =>
        cases f with
        | nx => exact fun w' H' σ' st R' => ⟨w', s', SatS.run R' h st⟩
        | rt u => exact fun w' H' σ' st R' => h w' H' σ' st R'
        | bk => exact fun w' H' σ' st R' => h w' H' σ' st R'
        | ct => exact fun w' H' σ' st R' => h w' H' σ' st R'
theorem ss_pass : SS X a Φ (.Pass pos) sNext := PS.imp (t := tNext) ps_pass fun D σ H ⟨w, s, h⟩ => SatS.here h
theorem ss_break : SS X a Φ (.Break pos) sBreak := PS.imp (t := tBreak) ps_break fun D σ H ⟨w, s, h⟩ => SatS.here h
theorem ss_cont : SS X a Φ (.Continue pos) sCont := PS.imp (t := tCont) ps_continue fun D σ H ⟨w, s, h⟩ => SatS.here h
theorem ss_expr (h : SE X a Φ e m) (hs : swapsWith e none pos.line X.env = pure false) : SS X a Φ (.Expr e pos) (sExpr m) :=
  PS.imp (ps_expr h hs) fun D σ H q => TSs.one (r1 := relU a) q fun w H s u v r k => SatS.here k
theorem ss_ret (h : SE X a Φ e m) : SS X a Φ (.Return (some e) pos) (sRet m) :=
  PS.imp (ps_ret h) fun D σ H q => TSs.one (r1 := relU a) q fun w H s u v r k => SatS.here k v r
theorem ss_retN : SS X a Φ (.Return none pos) sRetN := PS.imp (t := tRetN) ps_retN fun D σ H ⟨w, s, h⟩ => SatS.here h .non .non
theorem ss_if {c : Expr} (h : STt X a Φ c t) (h1 : SB X a Φ sts m1) (h2 : SB X a Φ sts' m2) : SS X a Φ (.If c sts sts' pos) (sIf t m1 m2) :=
  PS.imp (ps_if h h1 h2) fun D σ H q => TSs.one (r1 := relB) q fun w H s b c r k => by
    have e1 : b = c := r
    subst e1
    cases b with
    | true => rw [if_pos rfl]; exact ⟨w, s, k⟩
    | false => rw [if_neg Bool.false_ne_true]; exact ⟨w, s, k⟩
theorem SatS.store {D : Ends} {sv : SV} {w : W} {σ : L2.St} {H : Hp} {s : S} (k : SatS a Φ w σ H s (EL.store i sv) D) : i < s.env.length ∧ OutS a w H (setE s i sv) .nx D := by
  obtain ⟨R, k⟩ := k
  unfold EL.store at k
  by_cases h : i < s.env.length
  · rw [if_pos h] at k; exact ⟨h, k⟩
  · rw [if_neg h] at k; exact k.elim
theorem ss_set (hN : X.N.Nodup) (hi : X.N[i]? = some x) (hx : Loc X.env.scope x) (hf : X.fn x = true ∨ X.env.scope.names.lookup x = some .local) (h : SE X a Φ e m) (hs : swapsWith e (some (.Name x pos')) pos.line X.env = pure false) : SS X a Φ (.Assign [.Name x pos'] e pos) (sSet i m) :=
  PS.imp (ps_set hN hi hx h hs hf) fun D σ H q => TSs.one (r1 := relU a) q fun w H s u v r k => (SatS.store k).2 w H _ Stp.refl (Rel.setV k.1 r)
theorem ss_own (hN : X.N.Nodup) (hi : X.N[i]? = some x) (hx : Loc X.env.scope x) (hf : X.fn x = true ∨ X.env.scope.names.lookup x = some .local) (h : SO X a Φ e mo) (hs : swapsWith e (some (.Name x pos')) pos.line X.env = pure false) : SS X a Φ (.Assign [.Name x pos'] e pos) (sOwn i mo) :=
  PS.imp (ps_set hN hi hx h hs hf) fun D σ H q => TSs.own q fun w H s sv p P k => (SatS.store k).2 w H _ Stp.refl (P.store i)
end

/-! ### targets -/
/-- a target takes a value -/
def tgName (i : Nat) (u : U) : M Unit := fun _ s => if i < s.env.length then some (.ok () (setE s i (.val u))) else none
def tgTup (n : Nat) (f : List U → M Unit) (u : U) : M Unit := match u with
  | .tup us => if us.length = n then f us else fail
  | _ => fail
def tgsNil (us : List U) : M Unit := match us with
  | [] => ret ()
  | _ => fail
def tgsCons (f : U → M Unit) (g : List U → M Unit) (us : List U) : M Unit := match us with
  | u :: r => bnd (f u) fun _ => g r
  | [] => fail
/-- slots that stay -/
def SameBut (sl : List Nat) (σ σ' : L2.St) : Prop := σ'.length = σ.length ∧ ∀ j, j ∉ sl → σ'[j]? = σ[j]?
/-- the states behind -/
def SatT (a : Act) (Φ : Phi) (w : W) (σ0 σ : L2.St) (H : Hp) (s : S) (sl : List Nat) (m : M Unit) (Q : L2.St → Hp → Prop) : Prop :=
  Rel a w s.env s.hp σ H ∧ match m Φ s with
    | none => False
    | some (.ok _ s') => ∀ (w' : W) (H' : Hp) (σ' : L2.St), Stp w H w' H' → Rel a w' s'.env s'.hp σ' H' → SameBut sl σ0 σ' → Q σ' H'
    | some (.ex _ _ _ _) => False
def SG (X : Cx) (a : Act) (Φ : Phi) (sl : List Nat) (tg : Expr) (f : U → M Unit) : Prop := PG X tg fun v σ H Q => ∃ w s u, RU a.K a.cls w H u v ∧ SatT a Φ w σ σ H s sl (f u) Q
def SGs (X : Cx) (a : Act) (Φ : Phi) (sl : List Nat) (tg : List Expr) (f : List U → M Unit) : Prop := PGs X tg fun v σ H Q => ∃ w s u, RUs a.K a.cls w H u v ∧ SatT a Φ w σ σ H s sl (f u) Q
theorem PG.imp {X : Cx} {e : Expr} {t t' : TG} (h : PG X e t) (i : ∀ v σ H Q, t' v σ H Q → t v σ H Q) : PG X e t' := ⟨fun pins s σ H v u Q I r q => h.run pins s σ H v u Q I r (i v σ H Q q)⟩
theorem PGs.imp {X : Cx} {e : List Expr} {t t' : TGs} (h : PGs X e t) (i : ∀ v σ H Q, t' v σ H Q → t v σ H Q) : PGs X e t' := ⟨fun pins s σ H v u Q I r q => h.run pins s σ H v u Q I r (i v σ H Q q)⟩
section
variable {a : Act} {X : Cx} {Φ : Phi} {e : Expr} {es : List Expr} {f : U → M Unit} {g : List U → M Unit} {pos : Pos} {i n k : Nat} {x : Str} {sl sl' : List Nat}
theorem SameBut.refl {σ : L2.St} : SameBut sl σ σ := ⟨rfl, fun _ _ => rfl⟩
theorem sg_name (hN : X.N.Nodup) (hi : X.N[i]? = some x) (hx : Loc X.env.scope x) (hf : X.fn x = true ∨ X.env.scope.names.lookup x = some .local) : SG X a Φ [i] (.Name x pos) (tgName i) :=
  PG.imp (pg_name hN hi hx hf) fun v σ H Q ⟨w, s, u, r, R, h⟩ => by
    unfold tgName at h
    by_cases hl : i < s.env.length
    · rw [if_pos hl] at h
      exact h w H _ Stp.refl (R.setV r) ⟨by simp, fun j hj => List.getElem?_set_ne (fun z => hj (by simp [z]))⟩
    · rw [if_neg hl] at h; exact h.elim
theorem sgs_nil : SGs X a Φ [] [] tgsNil :=
  PGs.imp pgs_nil fun v σ H Q ⟨w, s, u, r, R, h⟩ => by
    cases r with
    | nil => exact ⟨rfl, h w H σ Stp.refl R .refl⟩
    | cons _ _ => exact h.elim
theorem sgs_cons (h1 : SG X a Φ sl e f) (h2 : SGs X a Φ sl' es g) (hs : (assignEach (e :: es) X.env).map (·.2) = assign e X.env :: (assignEach es X.env).map (·.2)) : SGs X a Φ (sl ++ sl') (e :: es) (tgsCons f g) :=
  PGs.imp (pgs_cons h1 h2 hs) fun v σ H Q ⟨w, s, u, r, R, h⟩ => by
    cases r with
    | nil => exact h.elim
    | @cons u1 v1 us vs r1 r2 =>
      refine ⟨_, _, rfl, w, s, _, r1, R, ?_⟩
      have h' : match bnd (f u1) (fun _ => g us) Φ s with
        | none => False
        | some (.ok _ s') => ∀ (w' : W) (H' : Hp) (σ' : L2.St), Stp w H w' H' → Rel a w' s'.env s'.hp σ' H' → SameBut (sl ++ sl') σ σ' → Q σ' H'
        | some (.ex _ _ _ _) => False := h
      unfold bnd at h'
      cases e : f u1 Φ s with
      | none => rw [e] at h'; exact h'
      | some z =>
        rw [e] at h'
        cases z with
        | ex c q v s' => exact absurd h' (by cases s'; intro z; exact z)
        | ok _ s' =>
          intro w' H' σ' st R' sb
          refine ⟨w', s', us, r2.mono st, R', ?_⟩
          have h2 : match g us Φ s' with
            | none => False
            | some (.ok _ s') => ∀ (w' : W) (H' : Hp) (σ' : L2.St), Stp w H w' H' → Rel a w' s'.env s'.hp σ' H' → SameBut (sl ++ sl') σ σ' → Q σ' H'
            | some (.ex _ _ _ _) => False := h'
          cases e2 : g us Φ s' with
          | none => rw [e2] at h2; exact h2
          | some z2 =>
            rw [e2] at h2
            cases z2 with
            | ex c q v s' => exact h2
            | ok _ s2 => exact fun w2 H2 σ2 st2 R2 sb2 => h2 w2 H2 σ2 (st.trans st2) R2 ⟨sb2.1.trans sb.1, fun j hj => (sb2.2 j fun z => hj (List.mem_append_right _ z)).trans (sb.2 j fun z => hj (List.mem_append_left _ z))⟩
theorem sg_tup (hK : X.K = a.K) (hc : X.calm = true) (h : SGs X a Φ sl es g) (hn : (assignEach es X.env).length = n) (hst : (assignEach es X.env).findIdx? (·.1) = none) : SG X a Φ sl (.Tuple es k pos) (tgTup n g) :=
  PG.imp (pg_tup (n := n) hc h hn hst) fun v σ H Q ⟨w, s, u, r, R, h⟩ => by
    cases u <;> first | exact h.elim | skip
    rename_i us
    unfold tgTup at h
    by_cases hl : us.length = n
    · simp only [hl, if_true] at h
      cases r with
      | tup f1 h1 r1 => exact ⟨_, _, rfl, by rw [hK]; exact SqT.of h1, by rw [← r1.length]; exact hl, w, s, us, r1, R, h⟩
    · simp only [hl, if_false] at h; exact h.elim
end
end EL
set_option Elab.async false
set_option linter.all false
set_option maxRecDepth 100000
/-! EC8: what is walked; for. -/
namespace EL
open PySem PySem.Spec PyProof.Rows L2

/-- J walks through us -/
def WalkU (a : Act) (us : List U) (J : It) (w : W) (H : Hp) : Prop := ∃ (G : Hp → Prop) (Y : Nat → Hp → V → Hp → Prop), Walk J us.length G Y ∧ (∀ (w' : W) (H' : Hp), Stp w H w' H' → G H') ∧
  ∀ (i : Nat) (H1 : Hp) (x : V) (H2 : Hp), i < us.length → Y i H1 x H2 → ∀ (b : Act) (w1 : W) (env : List SV) (hp : List EO) (σ : L2.St), b.K = a.K → b.cls = a.cls → Stp w H w1 H1 → Rel b w1 env hp σ H1 → ∃ (w2 : W) (u : U), Stp w1 H1 w2 H2 ∧ Rel b w2 env hp σ H2 ∧ us[i]? = some u ∧ RU a.K a.cls w2 H2 u x
abbrev relJ (a : Act) : W → Hp → List U → It → Prop := fun w H us J => WalkU a us J w H
def SI (X : Cx) (a : Act) (Φ : Phi) (tg iter : Expr) (m : M (List U)) : Prop := PI X tg iter fun σ H R => TR a Φ m (relJ a) σ H fun J H' => R J H'
theorem PI.imp {X : Cx} {tg iter : Expr} {t t' : TI} (h : PI X tg iter t) (i : ∀ σ H R, t' σ H R → t σ H R) : PI X tg iter t' := ⟨fun pins s σ H R I q => h.run pins s σ H R I (i σ H R q)⟩
theorem WalkU.mono {a : Act} {us : List U} {J : It} {w w' : W} {H H' : Hp} (h : WalkU a us J w H) (st : Stp w H w' H') : WalkU a us J w' H' := by
  obtain ⟨G, Y, h1, h2, h3⟩ := h
  exact ⟨G, Y, h1, fun w2 H2 st2 => h2 w2 H2 (st.trans st2), fun i H1 x H2 hi hy b w1 env hp σ hK hc st1 R => h3 i H1 x H2 hi hy b w1 env hp σ hK hc (st.trans st1) R⟩

/-! ### lists and tuples -/
def iSeq (K : PySem.W.Frag) (tl : TE) : TI := fun σ H R => tl σ H fun x H1 => ∃ a, x = .ref a ∧ (((∃ xs, SqL K H1 a xs) ∧ R (Itl K a) H1) ∨ ((∃ xs, SqT K H1 a xs) ∧ R (Itt K a) H1))
theorem pi_seq {X : Cx} {tg l : Expr} {tl : TE} (hl : PE X l tl) : PI X tg l (iSeq X.K tl) := by
  refine ⟨fun pins s σ H R I h => ?_⟩
  refine thn (hl.run pins s σ H _ I h) fun v s1 ⟨x, H1, I1, r1, q1⟩ => ?_
  obtain ⟨a, e, q1⟩ := q1
  subst e
  cases r1
  rcases q1 with ⟨⟨xs, hq⟩, q⟩ | ⟨⟨xs, hq⟩, q⟩
  · obtain ⟨its, rv, p, hz⟩ := I1.list hq
    refine wpAny_pyIter_list p.isList ?_
    refine ⟨s1.heap.objs.size, [s1.heap.objs.size], _, _, H1, rfl, I1.kept (t' := s1.toks) fun b o e => Heap.get?_push_of_some _ e, turn_list a _, ⟨_, Heap.get?_push_size _ rfl, rfl, rfl⟩, fun b hb => ?_, q⟩
    have e : b = s1.heap.objs.size := by simpa using hb
    subst e
    exact I1.fpOk (Nat.le_refl _) (I1.hok.fresh (Nat.le_refl _))
  · obtain ⟨its, rv, p, hz⟩ := I1.tuple hq
    refine wpAny_pyIter_tuple (show s1.heap.IsTuple a its.toArray from p) ?_
    refine ⟨s1.heap.objs.size, [s1.heap.objs.size], _, _, H1, rfl, I1.kept (t' := s1.toks) fun b o e => Heap.get?_push_of_some _ e, turn_tuple a _, ⟨_, Heap.get?_push_size _ rfl, rfl, rfl⟩, fun b hb => ?_, q⟩
    have e : b = s1.heap.objs.size := by simpa using hb
    subst e
    exact I1.fpOk (Nat.le_refl _) (I1.hok.fresh (Nat.le_refl _))
theorem walkU_list {a : Act} {us : List U} {vs : List V} {p : Addr} {w : W} {H : Hp} (f : w.F p) (h : Rd H p (.lst vs)) (r : RUs a.K a.cls w H us vs) : WalkU a us (Itl a.K p) w H := by
  have hl := r.length
  refine ⟨fun H' => SqL a.K H' p vs, YAt vs, by rw [hl]; exact walk_list, fun w' H' st => .inl (rd_step (st.H p f) h), fun i H1 x H2 hi hy b w1 env hp σ hK hc st R => ?_⟩
  obtain ⟨rfl, hx⟩ := hy
  obtain ⟨u, h1, h2⟩ := r.get' hx
  exact ⟨w1, u, Stp.refl, R, h1, h2.mono st⟩
theorem walkU_tup {a : Act} {us : List U} {vs : List V} {p : Addr} {w : W} {H : Hp} (f : w.F p) (h : H p = some (.tup vs)) (r : RUs a.K a.cls w H us vs) : WalkU a us (Itt a.K p) w H := by
  have hl := r.length
  refine ⟨fun H' => SqT a.K H' p vs, YAt vs, by rw [hl]; exact walk_tup, fun w' H' st => SqT.of ((st.H p f).trans h), fun i H1 x H2 hi hy b w1 env hp σ hK hc st R => ?_⟩
  obtain ⟨rfl, hx⟩ := hy
  obtain ⟨u, h1, h2⟩ := r.get' hx
  exact ⟨w1, u, Stp.refl, R, h1, h2.mono st⟩
theorem walkU_scrK {a : Act} {ns : List Int} {p : Addr} {w : W} {H : Hp} (h : ∀ H' : Hp, SqL a.K H' p (ns.map V.int)) : WalkU a (ns.map U.int) (Itl a.K p) w H := by
  have r : RUs a.K a.cls w H (ns.map U.int) (ns.map V.int) := RUs.of_ints ns
  have hl := r.length
  refine ⟨fun H' => SqL a.K H' p (ns.map V.int), YAt (ns.map V.int), by rw [hl]; exact walk_list, fun w' H' st => h H', fun i H1 x H2 hi hy b w1 env hp σ hK hc st R => ?_⟩
  obtain ⟨rfl, hx⟩ := hy
  obtain ⟨u, h1, h2⟩ := r.get' hx
  exact ⟨w1, u, Stp.refl, R, h1, h2.mono st⟩
/-- the items of a value -/
def itemsU : U → Option (List U)
  | .lst us => some us
  | .tup us => some us
  | .scr ns => some (ns.map U.int)
  | _ => none
def iItems (m : M U) : M (List U) := bnd m fun u => ofO (itemsU u)
theorem si_seq {X : Cx} {a : Act} {Φ : Phi} {tg e : Expr} {m : M U} (hK : X.K = a.K) (h : SE X a Φ e m) : SI X a Φ tg e (iItems m) :=
  PI.imp (pi_seq h) fun σ H R q => TR.one q fun w H s u x rx k => by
    obtain ⟨us, e, R', k2⟩ := Sat.fin k
    rw [hK]
    cases u <;> first | (cases e; done) | skip
    · cases e
      cases rx with
      | tup f h r => exact ⟨_, rfl, .inr ⟨⟨_, SqT.of h⟩, Out.now k2 R' (walkU_tup f h r)⟩⟩
    · cases e
      cases rx with
      | lst f h r => exact ⟨_, rfl, .inl ⟨⟨_, SqL.of h⟩, Out.now k2 R' (walkU_list f (.inl h) r)⟩⟩
    · cases e
      cases rx with
      | scr f h => exact ⟨_, rfl, .inl ⟨⟨_, .inl h⟩, Out.now k2 R' (walkU_list f h (RUs.of_ints _))⟩⟩
      | scrK h => exact ⟨_, rfl, .inl ⟨⟨_, h H⟩, Out.now k2 R' (walkU_scrK h)⟩⟩
/-! ### ranges -/
def rangeU (lo : Int) (n : Nat) : List U := (List.range n).map fun k : Nat => U.int (lo + (k : Int))
def rng1 : List U → Option (List U)
  | [.int j] => if -(2 ^ 62) ≤ j ∧ j < 2 ^ 62 then some (rangeU 0 j.toNat) else none
  | _ => none
def rng2 : List U → Option (List U)
  | [.int i, .int j] => if (-(2 ^ 62) ≤ i ∧ i < 2 ^ 62) ∧ -(2 ^ 62) ≤ j ∧ j < 2 ^ 62 then some (rangeU i (j - i).toNat) else none
  | _ => none
def iRange (ms : M (List U)) : M (List U) := bnd ms fun us => ofO (rng1 us)
def iRange2 (ms : M (List U)) : M (List U) := bnd ms fun us => ofO (rng2 us)
theorem walkU_range {a : Act} {lo : Int} {n : Nat} {w : W} {H : Hp} : WalkU a (rangeU lo n) (Itr lo n) w H := by
  have hl : (rangeU lo n).length = n := by simp [rangeU]
  refine ⟨fun _ => True, YFn fun i => .int (lo + i), by rw [hl]; exact walk_range, fun _ _ _ => trivial, fun i H1 x H2 hi hy b w1 env hp σ hK hc st R => ?_⟩
  obtain ⟨rfl, hx⟩ := hy
  subst hx
  rw [hl] at hi
  exact ⟨w1, .int (lo + (i : Nat)), Stp.refl, R, by simp [rangeU, hi], .int _⟩
section
variable {X : Cx} {a : Act} {Φ : Phi} {tg e e1 : Expr} {ms : M (List U)} {p pos : Pos}
theorem rng1_some {us : List U} {z : List U} (e : rng1 us = some z) : ∃ j, us = [.int j] ∧ -(2 ^ 62) ≤ j ∧ j < 2 ^ 62 ∧ z = rangeU 0 j.toNat := by
  unfold rng1 at e
  split at e
  · split at e
    · rename_i h; cases e; exact ⟨_, rfl, h.1, h.2, rfl⟩
    · cases e
  · cases e
theorem rng2_some {us : List U} {z : List U} (e : rng2 us = some z) : ∃ i j, us = [.int i, .int j] ∧ (-(2 ^ 62) ≤ i ∧ i < 2 ^ 62 ∧ -(2 ^ 62) ≤ j ∧ j < 2 ^ 62) ∧ z = rangeU i (j - i).toNat := by
  unfold rng2 at e
  split at e
  · split at e
    · rename_i h; cases e; exact ⟨_, _, rfl, ⟨h.1.1, h.1.2, h.2.1, h.2.2⟩, rfl⟩
    · cases e
  · cases e
theorem si_range (hg : Gl X "range") (hm : X.mg "range" = none) (h : SA X a Φ [e] ms) (hs : starEach [e] X.env = [(false, eval e X.env)]) : SI X a Φ tg (.Call (.Name "range" p) [e] [] pos) (iRange ms) :=
  PI.imp (pi_range1 hg hm h hs) fun σ H R q => TR.one q fun w H s us vs r k => by
    obtain ⟨z, e, R', k2⟩ := Sat.fin k
    obtain ⟨j, rfl, h1, h2, rfl⟩ := rng1_some e
    cases r with
    | cons r1 r =>
      cases r
      cases r1
      exact ⟨j, rfl, h1, h2, Out.now k2 R' walkU_range⟩
theorem si_range2 (hg : Gl X "range") (hm : X.mg "range" = none) (h : SA X a Φ [e, e1] ms) (hs : starEach [e, e1] X.env = [(false, eval e X.env), (false, eval e1 X.env)]) (hs2 : starEach [e1] X.env = [(false, eval e1 X.env)]) : SI X a Φ tg (.Call (.Name "range" p) [e, e1] [] pos) (iRange2 ms) :=
  PI.imp (pi_range2 hg hm h hs hs2) fun σ H R q => TR.one q fun w H s us vs r k => by
    obtain ⟨z, e, R', k2⟩ := Sat.fin k
    obtain ⟨i, j, rfl, h1, rfl⟩ := rng2_some e
    cases r with
    | cons r1 r =>
      cases r with
      | cons r2 r =>
        cases r
        cases r1
        cases r2
        exact ⟨i, j, rfl, h1, Out.now k2 R' walkU_range⟩
end

/-! ### for -/
def forL (body : U → M Fl) : List U → M Fl
  | [] => ret .nx
  | u :: us => bnd (body u) fun f => match f with
    | .nx => forL body us
    | .ct => forL body us
    | .bk => ret .nx
    | .rt v => ret (.rt v)
def seqT (m : M Unit) (b : M Fl) : M Fl := bnd m fun _ => b
def sFor (mi : M (List U)) (f : U → M Unit) (b : M Fl) : M Fl := bnd mi fun us => forL (fun u => seqT (f u) b) us
section
variable {X : Cx} {a : Act} {Φ : Phi} {tg iter : Expr} {body : List Stmt} {mi : M (List U)} {f : U → M Unit} {b : M Fl} {pos : Pos} {sl : List Nat}
theorem SatS.thenF {w : W} {σ : L2.St} {H : Hp} {s : S} {m : M Fl} {k : Fl → M Fl} {D D' : Ends} (h : SatS a Φ w σ H s (bnd m k) D)
    (c : ∀ (fl : Fl) (w' : W) (σ' : L2.St) (H' : Hp) (s' : S), Stp w H w' H' → SatS a Φ w' σ' H' s' (k fl) D → FlOk a fl D' w' σ' H') : SatS a Φ w σ H s m D' := by
  obtain ⟨R, h⟩ := h
  refine ⟨R, ?_⟩
  unfold bnd at h
  cases e : m Φ s with
  | none => rw [e] at h; exact h.elim
  | some z =>
    rw [e] at h
    cases z with
    | ex c g v s' => exact h
    | ok fl s' => exact fun w' H' σ' st R' => c fl w' σ' H' s' st (SatS.run R' h st)
theorem SatS.tgt {w : W} {σ : L2.St} {H : Hp} {s : S} {m : M Unit} {D : Ends} (h : SatS a Φ w σ H s (seqT m b) D) (hx : ∀ c g v s', m Φ s ≠ some (.ex c g v s')) : SatT a Φ w σ σ H s sl m fun σ' H' => TSs a Φ b D σ' H' := by
  obtain ⟨R, h⟩ := h
  refine ⟨R, ?_⟩
  unfold seqT bnd at h
  cases e : m Φ s with
  | none => rw [e] at h; exact h.elim
  | some z =>
    rw [e] at h
    cases z with
    | ex c g v s' => exact hx c g v s' e
    | ok fl s' => exact fun w' H' σ' st R' _ => ⟨w', s', SatS.run R' h st⟩
/-- targets raise nothing -/
def NoEx (f : U → M Unit) : Prop := ∀ u Φ s c g v s', f u Φ s ≠ some (.ex c g v s')
theorem ss_for (hp : PassesOwn (model X.prog X.w) X.A X.env X.xe) (hc : X.calm = true) (hi : SI X a Φ tg iter mi) (hg : SG X a Φ sl tg f) (hf : NoEx f) (hb : SB X a Φ body b) (hs : ∀ x, foldedSetIterable iter X.env x = pure x) : SS X a Φ (.For tg iter body [] pos) (sFor mi f b) :=
  PS.imp (ps_for hp hc hi hg hb hs) fun D σ H q => TSs.one q fun w0 H0 s0 us J hJ k => by
    obtain ⟨G, Y, hw, hG, hY⟩ := hJ
    refine for_it hw (D := D) (tb := TSs a Φ b) (g := fun v σ H Q => ∃ w s u, RU a.K a.cls w H u v ∧ SatT a Φ w σ σ H s sl (f u) Q) (fun i σ H => ∃ w s, Stp w0 H0 w H ∧ SatS a Φ w σ H s (forL (fun u => seqT (f u) b) (us.drop i)) D) ⟨w0, s0, Stp.refl, by simpa using k⟩ (fun i σ H _ ⟨w, s, st, _⟩ => hG w H st) (fun i x σ H H' hi ⟨w, s, st, h⟩ hy => ?_) fun σ H ⟨w, s, st, h⟩ => ?_
    · obtain ⟨w2, u, st2, R2, hu, ru⟩ := hY i H x H' hi hy a w s.env s.hp σ rfl rfl st h.1
      have hd : us.drop i = u :: us.drop (i + 1) := by
        have hlt := (List.getElem?_eq_some_iff.mp hu).1
        rw [List.drop_eq_getElem_cons hlt]
        congr 1
        exact Option.some.inj ((List.getElem?_eq_getElem hlt).symm.trans hu)
      rw [hd] at h
      have h2 : SatS a Φ w2 σ H' s (forL (fun u => seqT (f u) b) (u :: us.drop (i + 1))) D := SatS.run R2 h.2 st2
      refine ⟨w2, s, u, ru, SatS.tgt (SatS.thenF h2 fun fl w' σ' H2 s' st' h' => ?_) (hf u Φ s)⟩
      have st3 := (st.trans st2).trans st'
      cases fl with
      | nx => exact ⟨w', s', st3, h'⟩
      | ct => exact ⟨w', s', st3, h'⟩
      | bk => exact h'.2 w' H2 σ' Stp.refl h'.1
      | rt v => exact h'.2 w' H2 σ' Stp.refl h'.1
    · rw [List.drop_length] at h
      exact SatS.here h
end
end EL
set_option Elab.async false
set_option linter.all false
set_option maxRecDepth 100000
/-! EC9: list comprehensions. -/
namespace EL
open PySem PySem.Spec PyProof.Rows L2

/-- an activation with one more object that stays -/
abbrev Act.pin (a : Act) (p : Addr) (o : HO) : Act := { a with H0 := upd a.H0 p o }
/-- .. in which nothing is raised -/
abbrev Act.nox (a : Act) : Act := { a with E := fun _ _ _ _ => False }
section
variable {a b : Act} {w w' : W} {env env' : List SV} {hp hp' : List EO} {σ : L2.St} {H H' : Hp} {p : Addr} {o o' : HO}
/-- what a new address is to an activation -/
structure New (a : Act) (p : Addr) : Prop where
  h : a.H0 p = none
  f : ¬ a.F0 p
  r : p ∉ a.ρ0
  t : p ∉ a.cls.T
theorem Rel.isNew (R : Rel a w env hp σ H) (h : H p = none) : New a p :=
  ⟨R.fresh0 h, fun z => R.frz p (R.Fpre p z) h, fun z => R.cell_there (R.pre_mem z) h, fun z => R.tab_ne h z rfl⟩
theorem Rel.act (R : Rel a w env hp σ H) (h1 : b.K = a.K) (h2 : b.cls = a.cls) (h3 : b.F0 = a.F0) (h4 : b.ρ0 = a.ρ0) (h5 : b.H0 = a.H0) : Rel b w env hp σ H := by
  refine ⟨R.len, fun i s e => by rw [h1, h2]; exact R.slot i s e, fun i s p e ho hq => by rw [h5]; exact R.own i s p e ho hq, R.apart, R.clen, R.cnd, fun i o p e hq => by rw [h1, h2]; exact R.cell i o p e hq, R.cellF, fun p hp => by rw [h4, h5]; exact R.cell0 p hp, fun i p h => R.pre i p (by rw [← h4]; exact h), fun x o hx hm ht => R.frame x o (by rw [← h5]; exact hx) (by rw [← h4]; exact hm) (by rw [← h2]; exact ht), R.frz, fun x hx => by rw [h3, h4, h5]; exact R.F0 x hx, fun x hx => R.Fpre x (by rw [← h3]; exact hx), fun x hx => R.tab x (by rw [← h2]; exact hx), fun x hx => R.tabF x (by rw [← h2]; exact hx)⟩
theorem Rel.nox (R : Rel a w env hp σ H) : Rel a.nox w env hp σ H := R.act rfl rfl rfl rfl rfl
theorem Rel.ofNox (R : Rel a.nox w env hp σ H) : Rel a w env hp σ H := R.act rfl rfl rfl rfl rfl
/-- an object that is nobody's, kept aside -/
theorem Rel.toPin (R : Rel a w env hp σ H) (hn : H p = none) : Rel (a.pin p o) w env hp σ (upd H p o) ∧ Stp w H w (upd H p o) := by
  have ne : ∀ {x : Addr}, H x ≠ none → x ≠ p := fun hx z => hx (by rw [z]; exact hn)
  have st : Stp w H w (upd H p o) := ⟨fun _ h => h, fun _ _ h => h, fun x hx => upd_ne (ne (R.frz x hx))⟩
  have own' : ∀ {i : Nat} {s : SV} {q : Addr}, env[i]? = some s → isOwn s = true → σ[i]? = some (some (.ref q)) → q ≠ p := fun {i s q} e h hq => by
    obtain ⟨q', h1, h2⟩ := R.slot_there e h
    rw [h1] at hq; cases hq
    exact ne h2
  refine ⟨⟨R.len, fun i s e => (R.slot i s e).mono st fun h q hq => upd_ne (own' e h hq), fun i s q e h hq => ?_, R.apart, R.clen, R.cnd, fun i u q hi hq => (R.cell i u q hi hq).mono st (upd_ne (ne (R.cell_there (List.mem_of_getElem? hq)))), R.cellF, fun q hq => ?_, R.pre, fun x u hx hm ht => ?_, fun x hx => ?_, fun x hx => ?_, R.Fpre, R.tab_upd hn, R.tabF⟩, st⟩
  · obtain ⟨q1, q2, q3⟩ := R.own i s q e h hq
    exact ⟨q1, q2, (upd_ne (own' e h hq)).trans q3⟩
  · rcases R.cell0 q hq with z | z
    · exact .inl z
    · exact .inr ((upd_ne (ne (R.cell_there hq))).trans z)
  · by_cases hxp : x = p
    · subst hxp
      have hx' : upd a.H0 x o x = some u := hx
      rw [upd_same] at hx'; cases hx'; exact upd_same
    · have hx' : upd a.H0 p o x = some u := hx
      rw [upd_ne hxp] at hx'
      rw [upd_ne hxp]; exact R.frame x u hx' hm ht
  · rw [upd_ne (ne (R.frz x hx))]; exact R.frz x hx
  · rcases R.F0 x hx with z | z
    · exact .inl z
    · rcases z with z | z
      · exact .inr (.inl (z.eq (upd_ne (ne (R.frz x hx)))))
      · exact .inr (.inr z)
theorem New.out (n : New a p) (R : Rel (a.pin p o) w env hp σ H) (ht : ∀ xs, o ≠ .tup xs := by intro xs z; cases z) : H p = some o ∧ ¬ w.F p ∧ p ∉ w.ρ ∧ ∀ (i : Nat) (s : SV) (q : Addr), env[i]? = some s → isOwn s = true → σ[i]? = some (some (.ref q)) → q ≠ p := by
  refine ⟨R.frame p o upd_same n.r n.t, fun z => ?_, fun z => ?_, fun i s q e h hq z => ?_⟩
  · rcases R.F0 p z with z | z
    · exact n.f z
    · rcases z with z | z
      · have z' : Old0 (upd a.H0 p o) p := z
        unfold Old0 at z'
        rw [upd_same] at z'
        rcases z' with z' | ⟨xs, z'⟩
        · cases z'
        · cases z'; exact ht xs rfl
      · exact n.r z
  · rcases R.cell0 p z with z | z
    · exact n.r z
    · have z' : upd a.H0 p o p = none := z
      rw [upd_same] at z'; cases z'
  · subst z
    have z' : upd a.H0 q o q = none := (R.own i s q e h hq).2.2
    rw [upd_same] at z'; cases z'
theorem Rel.rePin (R : Rel (a.pin p o) w env hp σ H) (n : New a p) (ht : ∀ xs, o ≠ .tup xs := by intro xs z; cases z) : Rel (a.pin p o') w env hp σ (upd H p o') ∧ Stp w H w (upd H p o') := by
  obtain ⟨n1, n2, n3, n4⟩ := n.out R ht
  have st : Stp w H w (upd H p o') := ⟨fun _ h => h, fun _ _ h => h, fun x hx => upd_ne fun z => n2 (z ▸ hx)⟩
  have back : ∀ {x : Addr}, x ≠ p → upd a.H0 p o x = upd a.H0 p o' x := fun {x} h => by rw [upd_ne h, upd_ne h]
  refine ⟨⟨R.len, fun i s e => (R.slot i s e).mono st fun h q hq => upd_ne (n4 i s q e h hq), fun i s q e h hq => ?_, R.apart, R.clen, R.cnd, fun i u q hi hq => (R.cell i u q hi hq).mono st (upd_ne fun z => n3 (z ▸ List.mem_of_getElem? hq)), R.cellF, fun q hq => ?_, R.pre, fun x u hx hm ht' => ?_, fun x hx => ?_, fun x hx => ?_, R.Fpre, fun x hx => tabG_at (upd_ne fun z => n.t (z ▸ hx)) (R.tab x hx), R.tabF⟩, st⟩
  · obtain ⟨q1, q2, q3⟩ := R.own i s q e h hq
    exact ⟨q1, q2, (back (n4 i s q e h hq)).symm.trans q3⟩
  · rcases R.cell0 q hq with z | z
    · exact .inl z
    · exact .inr ((back fun e => n3 (e ▸ hq)).symm.trans z)
  · by_cases hxp : x = p
    · subst hxp
      have hx' : upd a.H0 x o' x = some u := hx
      rw [upd_same] at hx'; cases hx'; exact upd_same
    · rw [upd_ne hxp]
      exact R.frame x u ((back hxp).trans hx) hm ht'
  · rw [upd_ne (show x ≠ p from fun z => n2 (z ▸ hx))]; exact R.frz x hx
  · rcases R.F0 x hx with z | z
    · exact .inl z
    · rcases z with z | z
      · exact .inr (.inl (z.eq (back fun e => n2 (e ▸ hx)).symm))
      · exact .inr (.inr z)
theorem Rel.unPin {sv : SV} (R : Rel (a.pin p o) w env hp σ H) (n : New a p) (ho : isOwn sv = true) (hs : SlotOk a.K a.cls w H sv (some (some (.ref p)))) (ht : ∀ xs, o ≠ .tup xs := by intro xs z; cases z) : Pend a w env hp σ H sv p := by
  obtain ⟨n1, n2, n3, n4⟩ := n.out R ht
  have hl := R.len
  have out : ∀ {x : Addr}, x ≠ p → upd a.H0 p o x = a.H0 x := fun {x} h => upd_ne h
  have old : ∀ {i : Nat} {s : SV}, env[i]? = some s → (σ ++ [some (V.ref p)])[i]? = σ[i]? := fun {i s} e => by
    have := (List.getElem?_eq_some_iff.mp e).1
    rw [List.getElem?_append_left (by omega)]
  have last : (σ ++ [some (V.ref p)])[env.length]? = some (some (.ref p)) := by rw [hl]; exact app_last
  refine ⟨ho, ⟨by simp [hl], fun i s e => ?_, fun i s q e h hq => ?_, fun i j s t q e h hq e' h' hq' => ?_, R.clen, R.cnd, R.cell, R.cellF, fun q hq => ?_, R.pre, fun x u hx hm ht' => ?_, R.frz, fun x hx => ?_, R.Fpre, R.tab, R.tabF⟩⟩
  · rcases app_some e with e1 | ⟨z1, z2⟩
    · rw [old e1]; exact R.slot i s e1
    · rw [z1, z2, last]; exact hs
  · rcases app_some e with e1 | ⟨z1, z2⟩
    · rw [old e1] at hq
      obtain ⟨q1, q2, q3⟩ := R.own i s q e1 h hq
      exact ⟨q1, q2, (out (n4 i s q e1 h hq)).symm.trans q3⟩
    · rw [z1, last] at hq; cases hq
      exact ⟨n2, n3, n.h⟩
  · rcases app_some e with e1 | ⟨z1, z2⟩
    · rw [old e1] at hq
      rcases app_some e' with e2 | ⟨z1, z2⟩
      · rw [old e2] at hq'; exact R.apart i j s t q e1 h hq e2 h' hq'
      · rw [z1, last] at hq'; cases hq'
        exact absurd rfl (n4 i s _ e1 h hq)
    · rw [z1, last] at hq; cases hq
      rcases app_some e' with e2 | ⟨z3, z4⟩
      · rw [old e2] at hq'; exact absurd rfl (n4 j t _ e2 h' hq')
      · rw [z1, z3]
  · rcases R.cell0 q hq with z | z
    · exact .inl z
    · exact .inr ((out fun e => n3 (e ▸ hq)).symm.trans z)
  · by_cases hxp : x = p
    · subst hxp; rw [n.h] at hx; cases hx
    · exact R.frame x u ((out hxp).trans hx) hm ht'
  · rcases R.F0 x hx with z | z
    · exact .inl z
    · rcases z with z | z
      · exact .inr (.inl (z.eq (out fun e => n2 (e ▸ hx)).symm))
      · exact .inr (.inr z)

/-! ### slots forgotten and taken again -/
def wipeE (env : List SV) : List Nat → List SV
  | [] => env
  | v :: vs => (wipeE env vs).set v .no
theorem Rel.wipe (R : Rel a w env hp σ H) : ∀ vs : List Nat, Rel a w (wipeE env vs) hp (L2.wipe σ vs) H
  | [] => R
  | v :: vs => (Rel.wipe R vs).wipeV
/-- the slots vs as they were: values alone -/
def keepV : Option SV → SV
  | some (.val u) => .val u
  | _ => .no
def backE (env0 env : List SV) : List Nat → List SV
  | [] => env
  | v :: vs => (backE env0 env vs).set v (keepV env0[v]?)
theorem wipe_set {σ : L2.St} : ∀ (vs : List Nat) (j : Nat), j ∉ vs → (L2.wipe σ vs)[j]? = σ[j]?
  | [], _, _ => rfl
  | v :: vs, j, h => by
    unfold L2.wipe
    rw [List.getElem?_set_ne fun z => h (by simp [z]), wipe_set vs j fun z => h (List.mem_cons_of_mem _ z)]
theorem backE_len {env0 env : List SV} : ∀ vs : List Nat, (backE env0 env vs).length = env.length
  | [] => rfl
  | v :: vs => by unfold backE; rw [List.length_set, backE_len vs]
theorem backE_out {env0 env : List SV} : ∀ (vs : List Nat) (j : Nat), j ∉ vs → (backE env0 env vs)[j]? = env[j]?
  | [], _, _ => rfl
  | v :: vs, j, h => by
    unfold backE
    rw [List.getElem?_set_ne fun z => h (by simp [z]), backE_out vs j fun z => h (List.mem_cons_of_mem _ z)]
theorem backE_in {env0 env : List SV} : ∀ (vs : List Nat) (j : Nat) (s : SV), j ∈ vs → (backE env0 env vs)[j]? = some s → s = keepV env0[j]?
  | [], _, _, h, _ => by simp at h
  | v :: vs, j, s, h, e => by
    unfold backE at e
    by_cases hj : j = v
    · subst hj
      have il : j < (backE env0 env vs).length := by have := (List.getElem?_eq_some_iff.mp e).1; rw [List.length_set] at this; exact this
      rw [List.getElem?_set_self il] at e; cases e; rfl
    · rw [List.getElem?_set_ne (Ne.symm hj)] at e
      rcases List.mem_cons.mp h with z | z
      · exact absurd z hj
      · exact backE_in vs j s z e
theorem Rel.unwipe {w0 : W} {H0 : Hp} {env0 : List SV} {hp0 : List EO} {vs : List Nat} (R0 : Rel b w0 env0 hp0 σ H0) (h1 : b.K = a.K) (h2 : b.cls = a.cls) (st : Stp w0 H0 w H) (R : Rel a w env hp (L2.wipe σ vs) H) : Rel a w (backE env0 env vs) hp σ H := by
  have own' : ∀ {i : Nat} {s : SV}, (backE env0 env vs)[i]? = some s → isOwn s = true → i ∉ vs ∧ env[i]? = some s := fun {i s} e h => by
    by_cases hi : i ∈ vs
    · have := backE_in vs i s hi e
      subst this
      unfold keepV at h
      split at h <;> cases h
    · exact ⟨hi, (backE_out vs i hi).symm.trans e⟩
  have hlen : σ.length = env.length := by have := R.len; rw [L2.wipe_length] at this; exact this.symm
  refine ⟨by rw [backE_len]; exact hlen.symm, fun i s e => ?_, fun i s q e h hq => ?_, fun i j s t q e h hq e' h' hq' => ?_, R.clen, R.cnd, R.cell, R.cellF, R.cell0, R.pre, R.frame, R.frz, R.F0, R.Fpre, R.tab, R.tabF⟩
  · by_cases hi : i ∈ vs
    · have := backE_in vs i s hi e
      subst this
      unfold keepV
      split
      · rename_i u hu
        obtain ⟨x, q1, q2⟩ := R0.slot i _ hu
        rw [h1, h2] at q2
        exact ⟨x, q1, q2.mono st⟩
      · trivial
    · rw [backE_out vs i hi] at e
      have q := R.slot i s e
      rw [wipe_set vs i hi] at q
      exact q
  · obtain ⟨hi, e1⟩ := own' e h
    exact R.own i s q e1 h ((wipe_set vs i hi).trans hq)
  · obtain ⟨hi, e1⟩ := own' e h
    obtain ⟨hj, e2⟩ := own' e' h'
    exact R.apart i j s t q e1 h ((wipe_set vs i hi).trans hq) e2 h' ((wipe_set vs j hj).trans hq')
end
end EL
set_option Elab.async false
set_option linter.all false
set_option maxRecDepth 100000
/-! EC10: list comprehensions, of one clause and of two. -/
namespace EL
open PySem PySem.Spec PyProof.Rows L2

def wipeM (vs : List Nat) : M Unit := fun _ s => some (.ok () ⟨wipeE s.env vs, s.hp⟩)
/-- a turn: the target takes u, the tests, then k -/
def turnM (f : U → M Unit) (t : M Bool) (vs : List Nat) (u : U) (yes no : M (List U)) : M (List U) := bnd (wipeM vs) fun _ => bnd (f u) fun _ => bnd t fun b => if b = true then yes else no
def pushM (elt : M U) (acc : List U) : M (List U) := bnd elt fun v => if acc.length < line then ret (acc ++ [v]) else fail
def lcL (f : U → M Unit) (t : M Bool) (elt : M U) (vs : List Nat) : List U → List U → M (List U)
  | [], acc => ret acc
  | u :: us, acc => bnd (turnM f t vs u (pushM elt acc) (ret acc)) fun acc' => lcL f t elt vs us acc'
def oLC (mi : M (List U)) (f : U → M Unit) (t : M Bool) (elt : M U) (vs : List Nat) : M SV := bnd mi fun us => fun Φ s => match lcL f t elt vs us [] Φ s with
  | some (.ok acc s') => some (.ok (.ol acc) ⟨backE s.env (wipeE s'.env vs) vs, s'.hp⟩)
  | _ => none

/-- acts of a block -/
structure InB (a b : Act) : Prop where
  K : b.K = a.K
  cls : b.cls = a.cls
  E : b.E = fun _ _ _ _ => False
theorem PE.ex {X : Cx} {e : Expr} {α : Type} {C : α → Prop} {t : α → TE} (h : ∀ x, C x → PE X e (t x)) : PE X e fun σ H Q => ∃ x, C x ∧ t x σ H Q := ⟨fun pins s σ H Q I ⟨x, c, q⟩ => (h x c).run pins s σ H Q I q⟩
theorem PTs.ex {X : Cx} {e : List Expr} {α : Type} {C : α → Prop} {t : α → TT} (h : ∀ x, C x → PTs X e (t x)) : PTs X e fun σ H Q => ∃ x, C x ∧ t x σ H Q := ⟨fun pins s σ H Q I ⟨x, c, q⟩ => (h x c).run pins s σ H Q I q⟩
theorem PG.ex {X : Cx} {e : Expr} {α : Type} {C : α → Prop} {t : α → TG} (h : ∀ x, C x → PG X e (t x)) : PG X e fun v σ H Q => ∃ x, C x ∧ t x v σ H Q := ⟨fun pins s σ H v u Q I r ⟨x, c, q⟩ => (h x c).run pins s σ H v u Q I r q⟩
theorem PI.ex {X : Cx} {tg e : Expr} {α : Type} {C : α → Prop} {t : α → TI} (h : ∀ x, C x → PI X tg e (t x)) : PI X tg e fun σ H Q => ∃ x, C x ∧ t x σ H Q := ⟨fun pins s σ H Q I ⟨x, c, q⟩ => (h x c).run pins s σ H Q I q⟩
def STs (X : Cx) (a : Act) (Φ : Phi) (ifs : List Expr) (t : M Bool) : Prop := PTs X ifs (TR a Φ t relB)
theorem sts_nil {X : Cx} {a : Act} {Φ : Phi} : STs X a Φ [] (ret true) := ⟨fun pins s σ H Q I ⟨w, s', R, h⟩ => pts_nil.run pins s σ H Q I (h w H true Stp.refl R rfl)⟩
theorem sts_one {X : Cx} {a : Act} {Φ : Phi} {e : Expr} {t : M Bool} (h : STt X a Φ e t) : STs X a Φ [e] t := pts_one h

theorem wipe_ext {σ σ' : L2.St} {vs : List Nat} (hl : σ'.length = σ.length) (h : ∀ j, j ∉ vs → σ'[j]? = σ[j]?) : L2.wipe σ' vs = L2.wipe σ vs := by
  have in_none : ∀ (τ : L2.St) (us : List Nat) (j : Nat), j ∈ us → j < τ.length → (L2.wipe τ us)[j]? = some none := fun τ us => by
    induction us with
    | nil => intro j h; simp at h
    | cons v us ih =>
      intro j h hl
      unfold L2.wipe
      by_cases hj : j = v
      · subst hj; rw [List.getElem?_set_self (by rw [L2.wipe_length]; exact hl)]
      · rw [List.getElem?_set_ne (Ne.symm hj)]
        rcases List.mem_cons.mp h with z | z
        · exact absurd z hj
        · exact ih j z hl
  apply List.ext_getElem?
  intro j
  by_cases hj : j ∈ vs
  · by_cases hlt : j < σ.length
    · rw [in_none σ' vs j hj (by omega), in_none σ vs j hj hlt]
    · rw [List.getElem?_eq_none (by rw [L2.wipe_length]; omega), List.getElem?_eq_none (by rw [L2.wipe_length]; omega)]
  · rw [wipe_set vs j hj, h j hj, wipe_set vs j hj]
theorem wipeE_len (e : List SV) : ∀ vs : List Nat, (wipeE e vs).length = e.length
  | [] => rfl
  | v :: vs => by unfold wipeE; rw [List.length_set, wipeE_len e vs]
theorem wipeE_out {e : List SV} : ∀ (vs : List Nat) (j : Nat), j ∉ vs → (wipeE e vs)[j]? = e[j]?
  | [], _, _ => rfl
  | v :: vs, j, h => by
    unfold wipeE
    rw [List.getElem?_set_ne fun z => h (by simp [z]), wipeE_out vs j fun z => h (List.mem_cons_of_mem _ z)]
theorem wipeE_ext {e e' : List SV} {vs : List Nat} (hl : e'.length = e.length) (h : ∀ j, j ∉ vs → e'[j]? = e[j]?) : wipeE e' vs = wipeE e vs := by
  have in_none : ∀ (τ : List SV) (us : List Nat) (j : Nat), j ∈ us → j < τ.length → (wipeE τ us)[j]? = some .no := fun τ us => by
    induction us with
    | nil => intro j h; simp at h
    | cons v us ih =>
      intro j h hl
      unfold wipeE
      by_cases hj : j = v
      · subst hj; rw [List.getElem?_set_self (by rw [wipeE_len]; exact hl)]
      · rw [List.getElem?_set_ne (Ne.symm hj)]
        rcases List.mem_cons.mp h with z | z
        · exact absurd z hj
        · exact ih j z hl
  apply List.ext_getElem?
  intro j
  by_cases hj : j ∈ vs
  · by_cases hlt : j < e.length
    · rw [in_none e' vs j hj (by omega), in_none e vs j hj hlt]
    · rw [List.getElem?_eq_none (by rw [wipeE_len]; omega), List.getElem?_eq_none (by rw [wipeE_len]; omega)]
  · rw [wipeE_out vs j hj, h j hj, wipeE_out vs j hj]
theorem wipeE_wipe {e : List SV} {vs1 vs : List Nat} (hs : ∀ j, j ∈ vs1 → j ∈ vs) : wipeE (wipeE e vs1) vs = wipeE e vs :=
  wipeE_ext (by rw [wipeE_len]) fun j hj => wipeE_out vs1 j fun z => hj (hs j z)
theorem wipe_same {σ σ' : L2.St} {sl : List Nat} {vs : List Nat} (hs : ∀ j, j ∈ sl → j ∈ vs) (sb : SameBut sl (L2.wipe σ vs) σ') : L2.wipe σ' vs = L2.wipe σ vs :=
  wipe_ext (by rw [sb.1, L2.wipe_length]) fun j hj => by rw [sb.2 j fun z => hj (hs j z), wipe_set vs j hj]
theorem wipe_wipe {σ : L2.St} {vs1 vs : List Nat} (hs : ∀ j, j ∈ vs1 → j ∈ vs) : L2.wipe (L2.wipe σ vs1) vs = L2.wipe σ vs :=
  wipe_ext (by rw [L2.wipe_length]) fun j hj => wipe_set vs1 j fun z => hj (hs j z)

section
variable {a : Act} {Φ : Phi} {w : W} {σ : L2.St} {H : Hp} {s : S} {α : Type}
/-- run on: what a term leads to, wherever it starts -/
def Run (a : Act) (Φ : Phi) (w : W) (σ : L2.St) (H : Hp) (s : S) (m : M α) (P : α → W → Hp → S → Prop) : Prop := Rel a w s.env s.hp σ H ∧ match m Φ s with
  | some (.ok x s') => P x w H s'
  | _ => False
/-- the continuation: what is left to run gives c -/
def Leads (Φ : Phi) (s : S) (m : M α) (C : α → S → Prop) : Prop := match m Φ s with
  | some (.ok x s') => C x s'
  | _ => False
theorem Leads.bnd {β : Type} {m : M β} {k : β → M α} {C : α → S → Prop} (h : Leads Φ s (EL.bnd m k) C) : Leads Φ s m fun x s' => Leads Φ s' (k x) C := by
  unfold Leads EL.bnd at h
  unfold Leads
  cases e : m Φ s with
  | none => rw [e] at h; exact h
  | some z =>
    rw [e] at h
    cases z with
    | ok x s' => exact h
    | ex c g v s' => exact h
/-- a term that leads somewhere, in HandS's words -/
theorem Leads.tr {γ : Type} {m : M α} {C : α → S → Prop} {rel : W → Hp → α → γ → Prop} {Q : γ → Hp → Prop} (R : Rel a w s.env s.hp σ H) (h : Leads Φ s m C)
    (f : ∀ (w' : W) (H' : Hp) (x : α) (y : γ) (s' : S), Stp w H w' H' → Rel a w' s'.env s'.hp σ H' → rel w' H' x y → C x s' → Q y H') : TR a Φ m rel σ H Q := by
  refine ⟨w, s, R, ?_⟩
  unfold Leads at h
  cases e : m Φ s with
  | none => rw [e] at h; exact h
  | some z =>
    rw [e] at h
    cases z with
    | ok x s' => exact fun w' H' y st R' r => f w' H' x y s' st R' r h
    | ex c g v s' => exact h.elim
theorem Leads.tg {m : M Unit} {C : Unit → S → Prop} {sl : List Nat} {Q : L2.St → Hp → Prop} (R : Rel a w s.env s.hp σ H) (h : Leads Φ s m C)
    (f : ∀ (w' : W) (H' : Hp) (σ' : L2.St) (s' : S), Stp w H w' H' → Rel a w' s'.env s'.hp σ' H' → SameBut sl σ σ' → C () s' → Q σ' H') : SatT a Φ w σ σ H s sl m Q := by
  refine ⟨R, ?_⟩
  unfold Leads at h
  cases e : m Φ s with
  | none => rw [e] at h; exact h
  | some z =>
    rw [e] at h
    cases z with
    | ok x s' => exact fun w' H' σ' st R' r => f w' H' σ' s' st R' r h
    | ex c g v s' => exact h.elim
end

section
variable {X : Cx} {a : Act} {Φ : Phi} {elt tg iter tg1 iter1 : Expr} {ifs ifs1 : List Expr} {scope : Scope} {own : List (Str × Nat)} {mi mi1 : M (List U)} {f f1 : U → M Unit} {t t1 : M Bool} {m : M U} {pos : Pos} {sl sl1 : List Nat}
def tWi (a : Act) (Φ : Phi) (mi : M (List U)) : TI := fun σ H R => TR a Φ mi (relJ a) σ H fun J H' => R J H'
def tWx (a : Act) (Φ : Phi) (mi : M (List U)) : TI := fun σ H R => ∃ b, InB a b ∧ TR b Φ mi (relJ b) σ H fun J H' => R J H'
def tGx (a : Act) (Φ : Phi) (sl : List Nat) (f : U → M Unit) : TG := fun v σ H Q => ∃ b, InB a b ∧ ∃ w s u, RU b.K b.cls w H u v ∧ SatT b Φ w σ σ H s sl (f u) Q
def tTx (a : Act) (Φ : Phi) (t : M Bool) : TT := fun σ H Q => ∃ b, InB a b ∧ TR b Φ t relB σ H Q
def tEx (a : Act) (Φ : Phi) (m : M U) : TE := fun σ H Q => ∃ b, InB a b ∧ TR b Φ m (relU b) σ H Q
theorem lc_key {vs : List Nat} {σ : L2.St} {H : Hp} {Q : V → Hp → Prop} (hsl : ∀ j, j ∈ sl → j ∈ vs) (q : TRO a Φ (oLC mi f t m vs) σ H Q) : tLc (tWi a Φ mi) (tGx a Φ sl f) (tTx a Φ t) (tEx a Φ m) vs σ H Q := by
  refine TRO.one q fun w0 H0 s0 us J hJ R0 k D hD => ?_
  obtain ⟨G, Y, hw, hG, hY⟩ := hJ
  have k : Leads Φ s0 (lcL f t m vs us []) fun acc s' => ∀ (w' : W) (H' : Hp) (p : Addr), Stp w0 H0 w' H' → Pend a w' (backE s0.env (wipeE s'.env vs) vs) s'.hp σ H' (.ol acc) p → Q (.ref p) H' := by
    unfold Leads
    revert k
    cases lcL f t m vs us [] Φ s0 with
    | none => exact fun k => k
    | some z => cases z with
      | ok x s' => exact fun k => k
      | ex c g v s' => exact fun k => k
  have nD := R0.isNew hD
  obtain ⟨R1, st1⟩ := R0.toPin (o := .lst []) hD
  refine lc_it hw (g := fun v σ H Q => ∃ b, InB a b ∧ ∃ w s u, RU b.K b.cls w H u v ∧ SatT b Φ w σ σ H s sl (f u) Q) (tt := fun σ H Q => ∃ b, InB a b ∧ TR b Φ t relB σ H Q) (te := fun σ H Q => ∃ b, InB a b ∧ TR b Φ m (relU b) σ H Q)
    (fun i H => ∃ w s acc accV, Stp w0 H0 w H ∧ Rel (a.pin D (.lst accV)) w (wipeE s.env vs) s.hp (L2.wipe σ vs) H ∧ RUs a.K a.cls w H acc accV ∧ Leads Φ s (lcL f t m vs (us.drop i) acc) fun acc s' => ∀ (w' : W) (H' : Hp) (p : Addr), Stp w0 H0 w' H' → Pend a w' (backE s0.env (wipeE s'.env vs) vs) s'.hp σ H' (.ol acc) p → Q (.ref p) H')
    ⟨w0, s0, [], [], st1, R1.wipe vs, .nil, by simpa using k⟩ (fun i H _ ⟨w, s, acc, accV, st, _⟩ => hG w H st) ?_ ?_
  · rintro i x H H' hi ⟨w, s, acc, accV, st, R, ra, k⟩ hy
    obtain ⟨w2, u, st2, R2, hu, ru⟩ := hY i H x H' hi hy (a.pin D (.lst accV)).nox w (wipeE s.env vs) s.hp (L2.wipe σ vs) rfl rfl st R.nox
    have hd : us.drop i = u :: us.drop (i + 1) := by
      have hlt := (List.getElem?_eq_some_iff.mp hu).1
      rw [List.drop_eq_getElem_cons hlt]
      congr 1
      exact Option.some.inj ((List.getElem?_eq_getElem hlt).symm.trans hu)
    rw [hd] at k
    have ib : InB a (a.pin D (.lst accV)).nox := ⟨rfl, rfl, rfl⟩
    have k1 := Leads.bnd k
    have k2 : Leads Φ ⟨wipeE s.env vs, s.hp⟩ (f u) fun _ s1 => Leads Φ s1 (bnd t fun b => if b = true then pushM m acc else ret acc) fun acc' s' => Leads Φ s' (lcL f t m vs (us.drop (i + 1)) acc') _ := Leads.bnd (m := f u) k1
    refine ⟨_, ib, w2, ⟨wipeE s.env vs, s.hp⟩, u, ru, Leads.tg R2 k2 fun w3 H3 σ3 s3 st3 R3 sb k3 => ?_⟩
    have hws := wipe_same hsl sb
    refine ⟨hws, _, ib, Leads.tr (rel := relB) R3 (Leads.bnd k3) fun w4 H4 b c s4 st4 R4 e4 k4 => ?_⟩
    have e5 : b = c := e4
    subst e5
    have st5 := ((st.trans st2).trans st3).trans st4
    cases b with
    | false =>
      rw [if_neg Bool.false_ne_true]
      have R5 := (R4.ofNox).wipe vs
      rw [hws] at R5
      exact ⟨w4, s4, acc, accV, st5, R5, ra.mono ((st2.trans st3).trans st4), k4⟩
    | true =>
      rw [if_pos rfl]
      refine ⟨_, ib, Leads.tr (rel := relU _) R4 (Leads.bnd (m := m) k4) fun w6 H6 v y s6 st6 R6 rv k6 => ?_⟩
      have R6' := R6.ofNox
      obtain ⟨d1, d2, d3, d4⟩ := nD.out R6'
      have hlen : acc.length = accV.length := ra.length
      by_cases hl : acc.length < line
      · rw [if_pos hl] at k6
        obtain ⟨R7, st7⟩ := R6'.rePin (o' := .lst (accV ++ [y])) nD
        have R8 := R7.wipe vs
        rw [hws] at R8
        exact ⟨accV, d1, by rw [← hlen]; exact hl, w6, s6, acc ++ [v], accV ++ [y], (st5.trans st6).trans st7, R8, ((ra.mono (((st2.trans st3).trans st4).trans st6)).append (.cons rv .nil)).mono st7, k6⟩
      · rw [if_neg hl] at k6; exact k6.elim
  · rintro H ⟨w, s, acc, accV, st, R, ra, k⟩
    rw [List.drop_length] at k
    have R2 := Rel.unwipe (a := a.pin D (.lst accV)) R0 rfl rfl st R
    obtain ⟨d1, d2, d3, d4⟩ := nD.out R2
    exact k w H D st (R2.unPin nD rfl ⟨D, rfl, .lst d1 ra⟩)
theorem so_lc (hK : X.K = a.K) (hc : X.calm = true) (hN : X.N.Nodup) (hi : SI X a Φ tg iter mi) (ok : BlkOk X.N X.env.scope scope own) (hsl : ∀ j, j ∈ sl → j ∈ own.map (·.2))
    (hg : ∀ (s : Shared) (H : Hp) (C : Addr) (cl : List (Str × Addr)) (fp : List Addr) (b : Act), InB a b → SG (X.blk s H scope (compEnvC scope cl C X.env) fp) b Φ sl tg f)
    (ht : ∀ (s : Shared) (H : Hp) (C : Addr) (cl : List (Str × Addr)) (fp : List Addr) (b : Act), InB a b → STs (X.blk s H scope (compEnvC scope cl C X.env) fp) b Φ ifs t)
    (he : ∀ (s : Shared) (H : Hp) (C : Addr) (cl : List (Str × Addr)) (fp : List Addr) (b : Act), InB a b → SE (X.blk s H scope (compEnvC scope cl C X.env) fp) b Φ elt m) (hs : ∀ x, foldedSetIterable iter X.env x = pure x) :
    SO X a Φ (.ListComp elt [⟨tg, iter, ifs, 0⟩] scope pos) (oLC mi f t m (own.map (·.2))) :=
  PE.imp (pe_lc hc hN hi ok (fun s H C cl fp => PG.ex (C := InB a) fun b hb => hg s H C cl fp b hb) (fun s H C cl fp => PTs.ex (C := InB a) fun b hb => ht s H C cl fp b hb) (fun s H C cl fp => PE.ex (C := InB a) fun b hb => he s H C cl fp b hb) hs) fun σ H Q q => lc_key hsl q
theorem ss_lc {i : Nat} {y : Str} {py spos : Pos} (hy : X.N[i]? = some y) (hyl : X.env.scope.names.lookup y = some .local) (hsw : swapsWith (.ListComp elt [⟨tg, iter, ifs, 0⟩] scope pos) (some (.Name y py)) spos.line X.env = pure true) (hK : X.K = a.K) (hc : X.calm = true) (hN : X.N.Nodup) (hi : SI X a Φ tg iter mi) (ok : BlkOk X.N X.env.scope scope own) (hsl : ∀ j, j ∈ sl → j ∈ own.map (·.2))
    (hg : ∀ (s : Shared) (H : Hp) (C : Addr) (cl : List (Str × Addr)) (fp : List Addr) (b : Act), InB a b → SG (X.blk s H scope (compEnvC scope cl C X.env) fp) b Φ sl tg f)
    (ht : ∀ (s : Shared) (H : Hp) (C : Addr) (cl : List (Str × Addr)) (fp : List Addr) (b : Act), InB a b → STs (X.blk s H scope (compEnvC scope cl C X.env) fp) b Φ ifs t)
    (he : ∀ (s : Shared) (H : Hp) (C : Addr) (cl : List (Str × Addr)) (fp : List Addr) (b : Act), InB a b → SE (X.blk s H scope (compEnvC scope cl C X.env) fp) b Φ elt m) (hs : ∀ x, foldedSetIterable iter X.env x = pure x) :
    SS X a Φ (.Assign [.Name y py] (.ListComp elt [⟨tg, iter, ifs, 0⟩] scope pos) spos) (sOwn i (oLC mi f t m (own.map (·.2)))) :=
  PS.imp (ps_setLc hc hN hy hyl hsw hi ok (fun s H C cl fp => PG.ex (C := InB a) fun b hb => hg s H C cl fp b hb) (fun s H C cl fp => PTs.ex (C := InB a) fun b hb => ht s H C cl fp b hb) (fun s H C cl fp => PE.ex (C := InB a) fun b hb => he s H C cl fp b hb) hs) fun D σ H q => lc_key hsl (TSs.own q fun w H s sv p P k => (SatS.store k).2 w H _ Stp.refl (P.store i))
def lc2L (f : U → M Unit) (t : M Bool) (vs : List Nat) (mi1 : M (List U)) (f1 : U → M Unit) (t1 : M Bool) (elt : M U) (vs1 : List Nat) : List U → List U → M (List U)
  | [], acc => ret acc
  | u :: us, acc => bnd (turnM f t vs u (bnd mi1 fun us1 => lcL f1 t1 elt vs1 us1 acc) (ret acc)) fun acc' => lc2L f t vs mi1 f1 t1 elt vs1 us acc'
def oLC2 (mi : M (List U)) (f : U → M Unit) (t : M Bool) (mi1 : M (List U)) (f1 : U → M Unit) (t1 : M Bool) (elt : M U) (vs vs1 : List Nat) : M SV := bnd mi fun us => fun Φ s => match lc2L f t vs mi1 f1 t1 elt vs1 us [] Φ s with
  | some (.ok acc s') => some (.ok (.ol acc) ⟨backE s.env (wipeE s'.env vs) vs, s'.hp⟩)
  | _ => none
theorem lc2_key {vs vs1 : List Nat} {σ : L2.St} {H : Hp} {Q : V → Hp → Prop} (hsl : ∀ j, j ∈ sl → j ∈ vs) (hsl1 : ∀ j, j ∈ sl1 → j ∈ vs1) (hv : ∀ i ∈ vs1, i ∈ vs) (q : TRO a Φ (oLC2 mi f t mi1 f1 t1 m vs vs1) σ H Q) : tLc2 (tWi a Φ mi) (tGx a Φ sl f) (tTx a Φ t) (tWx a Φ mi1) (tGx a Φ sl1 f1) (tTx a Φ t1) (tEx a Φ m) vs vs1 σ H Q := by
  refine TRO.one q fun w0 H0 s0 us J hJ R0 k D hD => ?_
  obtain ⟨G, Y, hw, hG, hY⟩ := hJ
  have k : Leads Φ s0 (lc2L f t vs mi1 f1 t1 m vs1 us []) fun acc s' => ∀ (w' : W) (H' : Hp) (p : Addr), Stp w0 H0 w' H' → Pend a w' (backE s0.env (wipeE s'.env vs) vs) s'.hp σ H' (.ol acc) p → Q (.ref p) H' := by
    unfold Leads
    revert k
    cases lc2L f t vs mi1 f1 t1 m vs1 us [] Φ s0 with
    | none => exact fun k => k
    | some z => cases z with
      | ok x s' => exact fun k => k
      | ex c g v s' => exact fun k => k
  have nD := R0.isNew hD
  obtain ⟨R1, st1⟩ := R0.toPin (o := .lst []) hD
  -- what holds between two turns of the outer loop
  let Pv : Nat → Hp → Prop := fun i H => ∃ w s acc accV, Stp w0 H0 w H ∧ Rel (a.pin D (.lst accV)) w (wipeE s.env vs) s.hp (L2.wipe σ vs) H ∧ RUs a.K a.cls w H acc accV ∧ Leads Φ s (lc2L f t vs mi1 f1 t1 m vs1 (us.drop i) acc) fun acc s' => ∀ (w' : W) (H' : Hp) (p : Addr), Stp w0 H0 w' H' → Pend a w' (backE s0.env (wipeE s'.env vs) vs) s'.hp σ H' (.ol acc) p → Q (.ref p) H'
  refine ⟨fun i m H => m = us.length - i ∧ i ≤ us.length ∧ Pv i H, ⟨us.length, by simp, Nat.zero_le _, w0, s0, [], [], st1, R1.wipe vs, .nil, by simpa using k⟩, ?_⟩
  rintro i mm H ⟨rfl, hi, pv⟩
  by_cases hlt : i < us.length
  · obtain ⟨w, s, acc, accV, st, R, ra, k⟩ := pv
    refine .inr ⟨hw.goes i H hlt (hG w H st), Pv (i + 1), fun H' p' => ⟨us.length - (i + 1), by omega, rfl, hlt, p'⟩, fun x H' y => ?_⟩
    obtain ⟨w2, u, st2, R2, hu, ru⟩ := hY i H x H' hlt (hw.yields i H x H' hlt (hG w H st) y) (a.pin D (.lst accV)).nox w (wipeE s.env vs) s.hp (L2.wipe σ vs) rfl rfl st R.nox
    have hd : us.drop i = u :: us.drop (i + 1) := by
      rw [List.drop_eq_getElem_cons hlt]
      congr 1
      exact Option.some.inj ((List.getElem?_eq_getElem hlt).symm.trans hu)
    rw [hd] at k
    have ib : InB a (a.pin D (.lst accV)).nox := ⟨rfl, rfl, rfl⟩
    have k1 := Leads.bnd k
    have k2 : Leads Φ ⟨wipeE s.env vs, s.hp⟩ (f u) fun _ s1 => Leads Φ s1 (bnd t fun b => if b = true then (bnd mi1 fun us1 => lcL f1 t1 m vs1 us1 acc) else ret acc) fun acc' s' => Leads Φ s' (lc2L f t vs mi1 f1 t1 m vs1 (us.drop (i + 1)) acc') _ := Leads.bnd (m := f u) k1
    refine ⟨_, ib, w2, ⟨wipeE s.env vs, s.hp⟩, u, ru, Leads.tg R2 k2 fun w3 H3 σ3 s3 st3 R3 sb k3 => ?_⟩
    have hws := wipe_same hsl sb
    refine ⟨hws, _, ib, Leads.tr (rel := relB) R3 (Leads.bnd k3) fun w4 H4 b c s4 st4 R4 e4 k4 => ?_⟩
    have e5 : b = c := e4
    subst e5
    have st5 := ((st.trans st2).trans st3).trans st4
    cases b with
    | false =>
      rw [if_neg Bool.false_ne_true]
      have R5 := (R4.ofNox).wipe vs
      rw [hws] at R5
      exact ⟨w4, s4, acc, accV, st5, R5, ra.mono ((st2.trans st3).trans st4), k4⟩
    | true =>
      rw [if_pos rfl]
      refine ⟨_, ib, Leads.tr (rel := relJ _) R4 (Leads.bnd (m := mi1) k4) fun wa Ha us1 J1 sa sta Ra hJ1 ka => ?_⟩
      obtain ⟨G1, Y1, hw1, hG1, hY1⟩ := hJ1
      have st6 := st5.trans sta
      have ra6 := ra.mono (((st2.trans st3).trans st4).trans sta)
      have Rb := (Ra.ofNox).wipe vs1
      let Pi : Nat → Hp → Prop := fun j H => ∃ w s acc accV, Stp w0 H0 w H ∧ Stp wa Ha w H ∧ Rel (a.pin D (.lst accV)) w (wipeE s.env vs1) s.hp (L2.wipe σ3 vs1) H ∧ RUs a.K a.cls w H acc accV ∧ Leads Φ s (lcL f1 t1 m vs1 (us1.drop j) acc) fun acc' s' => Leads Φ s' (lc2L f t vs mi1 f1 t1 m vs1 (us.drop (i + 1)) acc') fun acc s' => ∀ (w' : W) (H' : Hp) (p : Addr), Stp w0 H0 w' H' → Pend a w' (backE s0.env (wipeE s'.env vs) vs) s'.hp σ H' (.ol acc) p → Q (.ref p) H'
      refine ⟨fun j m H => m = us1.length - j ∧ j ≤ us1.length ∧ Pi j H, ⟨us1.length, by simp, Nat.zero_le _, wa, sa, acc, accV, st6, Stp.refl, Rb, ra6, by simpa using ka⟩, ?_⟩
      rintro j kk Hj ⟨rfl, hj, pj⟩
      obtain ⟨w, s, acc, accV, st, sti, R, ra, k⟩ := pj
      by_cases hjl : j < us1.length
      · refine .inr ⟨hw1.goes j Hj hjl (hG1 w Hj sti), Pi (j + 1), fun H' p' => ⟨us1.length - (j + 1), by omega, rfl, hjl, p'⟩, fun x H' y => ?_⟩
        obtain ⟨w2, u, st2, R2, hu, ru⟩ := hY1 j Hj x H' hjl (hw1.yields j Hj x H' hjl (hG1 w Hj sti) y) (a.pin D (.lst accV)).nox w (wipeE s.env vs1) s.hp (L2.wipe σ3 vs1) rfl rfl sti R.nox
        have hd : us1.drop j = u :: us1.drop (j + 1) := by
          rw [List.drop_eq_getElem_cons hjl]
          congr 1
          exact Option.some.inj ((List.getElem?_eq_getElem hjl).symm.trans hu)
        rw [hd] at k
        have ib : InB a (a.pin D (.lst accV)).nox := ⟨rfl, rfl, rfl⟩
        have k1 := Leads.bnd k
        have k2 : Leads Φ ⟨wipeE s.env vs1, s.hp⟩ (f1 u) fun _ s1 => Leads Φ s1 (bnd t1 fun b => if b = true then pushM m acc else ret acc) fun acc' s' => Leads Φ s' (lcL f1 t1 m vs1 (us1.drop (j + 1)) acc') _ := Leads.bnd (m := f1 u) k1
        refine ⟨_, ib, w2, ⟨wipeE s.env vs1, s.hp⟩, u, ru, Leads.tg R2 k2 fun w3 H3 σ4 s3 st3 R3 sb k3 => ?_⟩
        have hws1 := wipe_same hsl1 sb
        refine ⟨hws1, _, ib, Leads.tr (rel := relB) R3 (Leads.bnd k3) fun w4 H4 b c s4 st4 R4 e4 k4 => ?_⟩
        have e5 : b = c := e4
        subst e5
        have stI := (st2.trans st3).trans st4
        cases b with
        | false =>
          rw [if_neg Bool.false_ne_true]
          have R5 := (R4.ofNox).wipe vs1
          rw [hws1] at R5
          exact ⟨w4, s4, acc, accV, st.trans stI, sti.trans stI, R5, ra.mono stI, k4⟩
        | true =>
          rw [if_pos rfl]
          refine ⟨_, ib, Leads.tr (rel := relU _) R4 (Leads.bnd (m := m) k4) fun w6 H6 v y s6 st6 R6 rv k6 => ?_⟩
          have R6' := R6.ofNox
          obtain ⟨d1, d2, d3, d4⟩ := nD.out R6'
          have hlen : acc.length = accV.length := ra.length
          by_cases hl : acc.length < line
          · rw [if_pos hl] at k6
            obtain ⟨R7, st7⟩ := R6'.rePin (o' := .lst (accV ++ [y])) nD
            have R8 := R7.wipe vs1
            rw [hws1] at R8
            have stA := (stI.trans st6).trans st7
            exact ⟨accV, d1, by rw [← hlen]; exact hl, w6, s6, acc ++ [v], accV ++ [y], st.trans stA, sti.trans stA, R8, ((ra.mono (stI.trans st6)).append (.cons rv .nil)).mono st7, k6⟩
          · rw [if_neg hl] at k6; exact k6.elim
      · have ej : j = us1.length := by omega
        subst ej
        refine .inl ⟨hw1.stops Hj (hG1 w Hj sti), ?_⟩
        rw [List.drop_length] at k
        have R9 := R.wipe vs
        rw [wipe_wipe hv, hws, wipeE_wipe hv] at R9
        exact ⟨w, s, acc, accV, st, R9, ra, k⟩
  · have e : i = us.length := by omega
    subst e
    obtain ⟨w, s, acc, accV, st, R, ra, k⟩ := pv
    refine .inl ⟨hw.stops H (hG w H st), ?_⟩
    rw [List.drop_length] at k
    have R2 := Rel.unwipe (a := a.pin D (.lst accV)) R0 rfl rfl st R
    obtain ⟨d1, d2, d3, d4⟩ := nD.out R2
    exact k w H D st (R2.unPin nD rfl ⟨D, rfl, .lst d1 ra⟩)
theorem so_lc2 {vs1 : List Nat} (hK : X.K = a.K) (hc : X.calm = true) (hN : X.N.Nodup) (hi : SI X a Φ tg iter mi) (ok : BlkOk X.N X.env.scope scope own) (hsl : ∀ j, j ∈ sl → j ∈ own.map (·.2)) (hsl1 : ∀ j, j ∈ sl1 → j ∈ vs1) (hv : ∀ i ∈ vs1, i ∈ own.map (·.2))
    (hg : ∀ (s : Shared) (H : Hp) (C : Addr) (cl : List (Str × Addr)) (fp : List Addr) (b : Act), InB a b → SG (X.blk s H scope (compEnvC scope cl C X.env) fp) b Φ sl tg f)
    (ht : ∀ (s : Shared) (H : Hp) (C : Addr) (cl : List (Str × Addr)) (fp : List Addr) (b : Act), InB a b → STs (X.blk s H scope (compEnvC scope cl C X.env) fp) b Φ ifs t)
    (hi1 : ∀ (s : Shared) (H : Hp) (C : Addr) (cl : List (Str × Addr)) (fp : List Addr) (b : Act), InB a b → SI (X.blk s H scope (compEnvC scope cl C X.env) fp) b Φ tg1 iter1 mi1)
    (hg1 : ∀ (s : Shared) (H : Hp) (C : Addr) (cl : List (Str × Addr)) (fp : List Addr) (b : Act), InB a b → SG (X.blk s H scope (compEnvC scope cl C X.env) fp) b Φ sl1 tg1 f1)
    (ht1 : ∀ (s : Shared) (H : Hp) (C : Addr) (cl : List (Str × Addr)) (fp : List Addr) (b : Act), InB a b → STs (X.blk s H scope (compEnvC scope cl C X.env) fp) b Φ ifs1 t1)
    (he : ∀ (s : Shared) (H : Hp) (C : Addr) (cl : List (Str × Addr)) (fp : List Addr) (b : Act), InB a b → SE (X.blk s H scope (compEnvC scope cl C X.env) fp) b Φ elt m) (hs : ∀ x, foldedSetIterable iter X.env x = pure x) (hs1 : ∀ env x, foldedSetIterable iter1 env x = pure x) :
    SO X a Φ (.ListComp elt [⟨tg, iter, ifs, 0⟩, ⟨tg1, iter1, ifs1, 0⟩] scope pos) (oLC2 mi f t mi1 f1 t1 m (own.map (·.2)) vs1) :=
  PE.imp (pe_lc2 (vs1 := vs1) hc hN hi ok hv (fun s H C cl fp => PG.ex (C := InB a) fun b hb => hg s H C cl fp b hb) (fun s H C cl fp => PTs.ex (C := InB a) fun b hb => ht s H C cl fp b hb) (fun s H C cl fp => PI.ex (C := InB a) fun b hb => hi1 s H C cl fp b hb) (fun s H C cl fp => PG.ex (C := InB a) fun b hb => hg1 s H C cl fp b hb) (fun s H C cl fp => PTs.ex (C := InB a) fun b hb => ht1 s H C cl fp b hb) (fun s H C cl fp => PE.ex (C := InB a) fun b hb => he s H C cl fp b hb) hs hs1) fun σ H Q q => lc2_key hsl hsl1 hv q
theorem ss_lc2 {vs1 : List Nat} {i : Nat} {y : Str} {py spos : Pos} (hy : X.N[i]? = some y) (hyl : X.env.scope.names.lookup y = some .local) (hsw : swapsWith (.ListComp elt [⟨tg, iter, ifs, 0⟩, ⟨tg1, iter1, ifs1, 0⟩] scope pos) (some (.Name y py)) spos.line X.env = pure true) (hK : X.K = a.K) (hc : X.calm = true) (hN : X.N.Nodup) (hi : SI X a Φ tg iter mi) (ok : BlkOk X.N X.env.scope scope own) (hsl : ∀ j, j ∈ sl → j ∈ own.map (·.2)) (hsl1 : ∀ j, j ∈ sl1 → j ∈ vs1) (hv : ∀ i ∈ vs1, i ∈ own.map (·.2))
    (hg : ∀ (s : Shared) (H : Hp) (C : Addr) (cl : List (Str × Addr)) (fp : List Addr) (b : Act), InB a b → SG (X.blk s H scope (compEnvC scope cl C X.env) fp) b Φ sl tg f)
    (ht : ∀ (s : Shared) (H : Hp) (C : Addr) (cl : List (Str × Addr)) (fp : List Addr) (b : Act), InB a b → STs (X.blk s H scope (compEnvC scope cl C X.env) fp) b Φ ifs t)
    (hi1 : ∀ (s : Shared) (H : Hp) (C : Addr) (cl : List (Str × Addr)) (fp : List Addr) (b : Act), InB a b → SI (X.blk s H scope (compEnvC scope cl C X.env) fp) b Φ tg1 iter1 mi1)
    (hg1 : ∀ (s : Shared) (H : Hp) (C : Addr) (cl : List (Str × Addr)) (fp : List Addr) (b : Act), InB a b → SG (X.blk s H scope (compEnvC scope cl C X.env) fp) b Φ sl1 tg1 f1)
    (ht1 : ∀ (s : Shared) (H : Hp) (C : Addr) (cl : List (Str × Addr)) (fp : List Addr) (b : Act), InB a b → STs (X.blk s H scope (compEnvC scope cl C X.env) fp) b Φ ifs1 t1)
    (he : ∀ (s : Shared) (H : Hp) (C : Addr) (cl : List (Str × Addr)) (fp : List Addr) (b : Act), InB a b → SE (X.blk s H scope (compEnvC scope cl C X.env) fp) b Φ elt m) (hs : ∀ x, foldedSetIterable iter X.env x = pure x) (hs1 : ∀ env x, foldedSetIterable iter1 env x = pure x) :
    SS X a Φ (.Assign [.Name y py] (.ListComp elt [⟨tg, iter, ifs, 0⟩, ⟨tg1, iter1, ifs1, 0⟩] scope pos) spos) (sOwn i (oLC2 mi f t mi1 f1 t1 m (own.map (·.2)) vs1)) :=
  PS.imp (ps_setLc2 (vs1 := vs1) hc hN hy hyl hsw hi ok hv (fun s H C cl fp => PG.ex (C := InB a) fun b hb => hg s H C cl fp b hb) (fun s H C cl fp => PTs.ex (C := InB a) fun b hb => ht s H C cl fp b hb) (fun s H C cl fp => PI.ex (C := InB a) fun b hb => hi1 s H C cl fp b hb) (fun s H C cl fp => PG.ex (C := InB a) fun b hb => hg1 s H C cl fp b hb) (fun s H C cl fp => PTs.ex (C := InB a) fun b hb => ht1 s H C cl fp b hb) (fun s H C cl fp => PE.ex (C := InB a) fun b hb => he s H C cl fp b hb) hs hs1) fun D σ H q => lc2_key hsl hsl1 hv (TSs.own q fun w H s sv p P k => (SatS.store k).2 w H _ Stp.refl (P.store i))
end
end EL
set_option Elab.async false
set_option linter.all false
set_option maxRecDepth 100000
/-! EC11: what changes a list or a dict; tests. -/
namespace EL
open PySem PySem.Spec PyProof.Rows L2

theorem nodup_at {α : Type} {l : List α} (h : l.Nodup) {i j : Nat} {x : α} (hi : l[i]? = some x) (hj : l[j]? = some x) : i = j := by
  obtain ⟨h1, e1⟩ := List.getElem?_eq_some_iff.mp hi
  obtain ⟨h2, e2⟩ := List.getElem?_eq_some_iff.mp hj
  have q := List.pairwise_iff_getElem.mp h
  rcases Nat.lt_trichotomy i j with z | z | z
  · exact absurd (e1.trans e2.symm) (q i j h1 h2 z)
  · exact z
  · exact absurd (e2.trans e1.symm) (q j i h2 h1 z)
section
variable {a : Act} {w : W} {env : List SV} {hp : List EO} {σ : L2.St} {H : Hp} {s : S} {p : Addr} {o : HO}
/-- a slot's own object changes -/
theorem Rel.mutS (R : Rel a w env hp σ H) {i : Nat} {s0 s1 : SV} (he : env[i]? = some s0) (h0 : isOwn s0 = true) (h1 : isOwn s1 = true) (hσ : σ[i]? = some (some (.ref p))) (hs : ∀ H', Stp w H w H' → H' p = some o → SlotOk a.K a.cls w H' s1 (some (some (.ref p)))) : Rel a w (env.set i s1) hp σ (upd H p o) ∧ Stp w H w (upd H p o) := by
  obtain ⟨o1, o2, o3⟩ := R.own i s0 p he h0 hσ
  have il : i < env.length := (List.getElem?_eq_some_iff.mp he).1
  have st : Stp w H w (upd H p o) := ⟨fun _ h => h, fun _ _ h => h, fun x hx => upd_ne fun z => o1 (z ▸ hx)⟩
  have key : ∀ {j : Nat} {t : SV}, (env.set i s1)[j]? = some t → (j = i ∧ t = s1) ∨ (j ≠ i ∧ env[j]? = some t) := fun {j t} e => by
    by_cases hj : j = i
    · subst hj; rw [List.getElem?_set_self il] at e; cases e; exact .inl ⟨rfl, rfl⟩
    · exact .inr ⟨hj, set_other hj e⟩
  refine ⟨⟨by rw [List.length_set]; exact R.len, fun j t e => ?_, fun j t q e h hq => ?_, fun j k t t' q e h hq e' h' hq' => ?_, R.clen, R.cnd, fun j u q hi hq => (R.cell j u q hi hq).mono st (upd_ne fun z => o2 (z ▸ List.mem_of_getElem? hq)), R.cellF, R.cell0, R.pre, fun x u hx hm ht => ?_, fun x hx => ?_, R.F0, R.Fpre, fun x hx => tabG_at (upd_ne (R.slot_ntab he h0 hσ hx)) (R.tab x hx), R.tabF⟩, st⟩
  · rcases key e with ⟨rfl, rfl⟩ | ⟨hj, e1⟩
    · rw [hσ]; exact hs _ st upd_same
    · refine (R.slot j t e1).mono st fun h q hq => upd_ne fun z => ?_
      subst z
      exact hj (R.apart j i t s0 q e1 h hq he h0 hσ)
  · rcases key e with ⟨rfl, rfl⟩ | ⟨hj, e1⟩
    · exact R.own j s0 q he h0 hq
    · exact R.own j t q e1 h hq
  · rcases key e with ⟨rfl, rfl⟩ | ⟨hj, e1⟩
    · rcases key e' with ⟨rfl, rfl⟩ | ⟨hk, e2⟩
      · rfl
      · exact R.apart j k s0 t' q he h0 hq e2 h' hq'
    · rcases key e' with ⟨rfl, rfl⟩ | ⟨hk, e2⟩
      · exact R.apart j k t s0 q e1 h hq he h0 hq'
      · exact R.apart j k t t' q e1 h hq e2 h' hq'
  · rw [upd_ne fun z => by subst z; rw [o3] at hx; cases hx]
    exact R.frame x u hx hm ht
  · rw [upd_ne (show x ≠ p from fun z => o1 (z ▸ hx))]; exact R.frz x hx
/-- a cell changes -/
theorem Rel.mutC (R : Rel a w env hp σ H) {i : Nat} {e0 e1 : EO} (he : hp[i]? = some e0) (hz0 : fzO e0 = false) (hr : w.ρ[i]? = some p) (hs : ∀ H', Stp w H w H' → H' p = some o → OC a.K a.cls w H' e1 p) : Rel a w env (hp.set i e1) σ (upd H p o) ∧ Stp w H w (upd H p o) := by
  have il : i < hp.length := (List.getElem?_eq_some_iff.mp he).1
  have hm : p ∈ w.ρ := List.mem_of_getElem? hr
  have st : Stp w H w (upd H p o) := ⟨fun _ h => h, fun _ _ h => h, fun x hx => upd_ne fun z => R.cellF i e0 p he hr hz0 (z ▸ hx)⟩
  refine ⟨⟨R.len, fun j t e => (R.slot j t e).mono st fun h q hq => upd_ne fun z => ?_, R.own, R.apart, by rw [List.length_set]; exact R.clen, R.cnd, fun j u q hi hq => ?_, fun j u q hi hq hz => ?_, R.cell0, R.pre, fun x u hx hm' ht => ?_, fun x hx => ?_, R.F0, R.Fpre, fun x hx => tabG_at (upd_ne (R.cell_ntab hm hx)) (R.tab x hx), R.tabF⟩, st⟩
  · subst z
    exact (R.own j t q e h hq).2.1 hm
  · by_cases hj : j = i
    · subst hj
      rw [List.getElem?_set_self il] at hi; cases hi
      rw [hr] at hq; cases hq
      exact hs _ st upd_same
    · rw [List.getElem?_set_ne (Ne.symm hj)] at hi
      refine (R.cell j u q hi hq).mono st (upd_ne fun z => ?_)
      subst z
      exact hj (nodup_at R.cnd hq hr)
  · by_cases hj : j = i
    · subst hj
      rw [hr] at hq; cases hq
      exact R.cellF j e0 p he hr hz0
    · rw [List.getElem?_set_ne (Ne.symm hj)] at hi
      exact R.cellF j u q hi hq hz
  · rw [upd_ne fun z => ?_]
    · exact R.frame x u hx hm' ht
    · subst z
      rcases R.cell0 x hm with z | z
      · exact hm' z
      · rw [hx] at z; cases z
  · rw [upd_ne (show x ≠ p from fun z => R.cellF i e0 p he hr hz0 (z ▸ hx))]; exact R.frz x hx
end

/-! ### lists that may be changed -/
def lstH (s : S) : Hd → Option (List U)
  | .u (.ref i) => match s.hp[i]? with
    | some (.lst us) => some us
    | _ => none
  | .sl i => match s.env[i]? with
    | some (.ol us) => some us
    | _ => none
  | _ => none
def setH (s : S) (h : Hd) (us : List U) : S := match h with
  | .u (.ref i) => ⟨s.env, s.hp.set i (.lst us)⟩
  | .sl i => ⟨s.env.set i (.ol us), s.hp⟩
  | _ => s
def dcH (s : S) : Hd → Option (Bool × List (U × U))
  | .u (.ref i) => match s.hp[i]? with
    | some (.dic t us) => some (t, us)
    | _ => none
  | .sl i => match s.env[i]? with
    | some (.od t us) => some (t, us)
    | _ => none
  | _ => none
def setD (s : S) (h : Hd) (t : Bool) (us : List (U × U)) : S := match h with
  | .u (.ref i) => ⟨s.env, s.hp.set i (.dic t us)⟩
  | .sl i => ⟨s.env.set i (.od t us), s.hp⟩
  | _ => s
section
variable {a : Act} {w : W} {σ : L2.St} {H : Hp} {s : S}
theorem lst_spec (R : Rel a w s.env s.hp σ H) {h : Hd} {v : V} {us : List U} (q : HdOk a σ w H h v) (e : lstH s h = some us) : ∃ p vs, v = .ref p ∧ H p = some (.lst vs) ∧ RUs a.K a.cls w H us vs ∧
    ∀ us' vs', RUs a.K a.cls w H us' vs' → Rel a w (setH s h us').env (setH s h us').hp σ (upd H p (.lst vs')) ∧ Stp w H w (upd H p (.lst vs')) := by
  cases h with
  | sl i =>
    simp only [lstH] at e
    split at e
    · rename_i us0 he
      cases e
      obtain ⟨p, h1, h2⟩ := R.slot i _ he
      have hv : σ[i]? = some (some v) := q
      rw [h1] at hv; cases hv
      cases h2 with
      | lst h3 r => exact ⟨p, _, rfl, h3, r, fun us' vs' r' => R.mutS he rfl rfl h1 fun H' st hp => ⟨p, rfl, .lst hp (r'.mono st)⟩⟩
    · cases e
  | u u =>
    have q' : RU a.K a.cls w H u v := q
    cases u <;> first | (cases e; done) | skip
    rename_i i
    simp only [lstH] at e
    split at e
    · rename_i us0 he
      cases e
      cases q' with
      | ref hr =>
        cases R.cell i _ _ he hr with
        | lst h3 r => exact ⟨_, _, rfl, h3, r, fun us' vs' r' => R.mutC he rfl hr fun H' st hp => .lst hp (r'.mono st)⟩
    · cases e
theorem RKs.map {K : PySem.W.Frag} {cls : Cl} {k : L2.Key} {u : U} {v : V} (r0 : RU K cls w H u v) : ∀ {us : List (U × U)} {ks : List (L2.Key × V)}, RKs K cls w H us ks →
    RKs K cls w H (us.map fun e => if decide (toK e.1 = some k) = true then (e.1, u) else e) (ks.map fun kv => if kv.1 = k then (kv.1, v) else kv)
  | _, _, .nil => .nil
  | _, _, .cons (k := k') r t => by
    rw [List.map_cons, List.map_cons]
    by_cases e : k' = k
    · rw [if_pos (by simp [toK_kU, e]), if_pos e]; exact .cons r0 (RKs.map r0 t)
    · rw [if_neg (by simp [toK_kU, e]), if_neg e]; exact .cons r (RKs.map r0 t)
theorem RKs.any {K : PySem.W.Frag} {cls : Cl} {k : L2.Key} : ∀ {us : List (U × U)} {ks : List (L2.Key × V)}, RKs K cls w H us ks → (us.any fun e => decide (toK e.1 = some k)) = ks.any fun kv => decide (kv.1 = k)
  | _, _, .nil => rfl
  | _, _, .cons (k := k') r t => by rw [List.any_cons, List.any_cons, RKs.any t]; simp [toK_kU]
theorem RKs.app {K : PySem.W.Frag} {cls : Cl} {k : L2.Key} {u : U} {v : V} (r0 : RU K cls w H u v) : ∀ {us : List (U × U)} {ks : List (L2.Key × V)}, RKs K cls w H us ks → RKs K cls w H (us ++ [(kU k, u)]) (ks ++ [(k, v)])
  | _, _, .nil => .cons r0 .nil
  | _, _, .cons r t => .cons r (RKs.app r0 t)
theorem RKs.put {K : PySem.W.Frag} {cls : Cl} {k : L2.Key} {u : U} {v : V} {us : List (U × U)} {ks : List (L2.Key × V)} (r0 : RU K cls w H u v) (r : RKs K cls w H us ks) : RKs K cls w H (putU us (fun e => decide (toK e = some k)) (kU k) u) (putK ks k v) := by
  unfold putU putK
  rw [RKs.any r]
  by_cases h : (ks.any fun kv => decide (kv.1 = k)) = true
  · rw [if_pos h, if_pos h]; exact RKs.map r0 r
  · rw [if_neg h, if_neg h]; exact RKs.app r0 r
theorem RTs.map {K : PySem.W.Frag} {cls : Cl} {k : List L2.Key} {u : U} {v : V} (r0 : RU K cls w H u v) : ∀ {us : List (U × U)} {ks : List (List L2.Key × V)}, RTs K cls w H us ks →
    RTs K cls w H (us.map fun e => if decide (toKT e.1 = some k) = true then (e.1, u) else e) (ks.map fun kv => if kv.1 = k then (kv.1, v) else kv)
  | _, _, .nil => .nil
  | _, _, .cons (k := k') r t => by
    rw [List.map_cons, List.map_cons]
    by_cases e : k' = k
    · rw [if_pos (by simp [toKT, toKs_kU, e]), if_pos e]; exact .cons r0 (RTs.map r0 t)
    · rw [if_neg (by simp [toKT, toKs_kU, e]), if_neg e]; exact .cons r (RTs.map r0 t)
theorem RTs.any {K : PySem.W.Frag} {cls : Cl} {k : List L2.Key} : ∀ {us : List (U × U)} {ks : List (List L2.Key × V)}, RTs K cls w H us ks → (us.any fun e => decide (toKT e.1 = some k)) = ks.any fun kv => decide (kv.1 = k)
  | _, _, .nil => rfl
  | _, _, .cons (k := k') r t => by rw [List.any_cons, List.any_cons, RTs.any t]; simp [toKT, toKs_kU]
theorem RTs.app {K : PySem.W.Frag} {cls : Cl} {k : List L2.Key} {u : U} {v : V} (r0 : RU K cls w H u v) : ∀ {us : List (U × U)} {ks : List (List L2.Key × V)}, RTs K cls w H us ks → RTs K cls w H (us ++ [(.tup (k.map kU), u)]) (ks ++ [(k, v)])
  | _, _, .nil => .cons r0 .nil
  | _, _, .cons r t => .cons r (RTs.app r0 t)
theorem RTs.put {K : PySem.W.Frag} {cls : Cl} {k : List L2.Key} {u : U} {v : V} {us : List (U × U)} {ks : List (List L2.Key × V)} (r0 : RU K cls w H u v) (r : RTs K cls w H us ks) : RTs K cls w H (putU us (fun e => decide (toKT e = some k)) (.tup (k.map kU)) u) (putK ks k v) := by
  unfold putU putK
  rw [RTs.any r]
  by_cases h : (ks.any fun kv => decide (kv.1 = k)) = true
  · rw [if_pos h, if_pos h]; exact RTs.map r0 r
  · rw [if_neg h, if_neg h]; exact RTs.app r0 r
/-- a store into a dict -/
theorem put_spec (R : Rel a w s.env s.hp σ H) {h : Hd} {x y z : V} {t : Bool} {us us' : List (U × U)} {k u : U} (q : HdOk a σ w H h x) (e : dcH s h = some (t, us)) (rk : RU a.K a.cls w H k y) (ru : RU a.K a.cls w H u z) (ep : put t us k u = some us') :
    ∃ p H', x = .ref p ∧ DPut H p y z H' ∧ Rel a w (setD s h t us').env (setD s h t us').hp σ H' ∧ Stp w H w H' := by
  unfold put at ep
  by_cases hl : us.length < line
  · rw [if_pos hl] at ep
    -- where the dict lies
    have main : ∀ (p : Addr), OC a.K a.cls w H (.dic t us) p → (∀ o, (∀ H', Stp w H w H' → H' p = some o → OC a.K a.cls w H' (.dic t us') p) → Rel a w (setD s h t us').env (setD s h t us').hp σ (upd H p o) ∧ Stp w H w (upd H p o)) →
        ∃ H', DPut H p y z H' ∧ Rel a w (setD s h t us').env (setD s h t us').hp σ H' ∧ Stp w H w H' := by
      intro p oc mu
      cases oc with
      | dicK h3 r =>
        simp only [Bool.false_eq_true, if_false] at ep
        cases hk : toK k with
        | none => rw [hk] at ep; cases ep
        | some kk =>
          rw [hk] at ep; cases ep
          obtain ⟨rfl, rfl⟩ := toK_some rk hk
          refine ⟨_, .inl ⟨_, kk, h3, rfl, by rw [← r.length]; exact hl, rfl⟩, mu _ fun H' st hp => .dicK hp ((RKs.put ru r).mono st)⟩
      | dicT h3 r =>
        simp only [if_true] at ep
        cases hk : toKT k with
        | none => rw [hk] at ep; cases ep
        | some kk =>
          rw [hk] at ep; cases ep
          obtain ⟨b, rfl, hb, rfl⟩ := toKT_some rk hk
          refine ⟨_, .inr ⟨_, kk, b, h3, rfl, hb, by rw [← r.length]; exact hl, rfl⟩, mu _ fun H' st hp => .dicT hp ((RTs.put ru r).mono st)⟩
    cases h with
    | sl i =>
      simp only [dcH] at e
      split at e
      · rename_i t0 us0 he
        cases e
        obtain ⟨p, h1, h2⟩ := R.slot i _ he
        have hv : σ[i]? = some (some x) := q
        rw [h1] at hv; cases hv
        obtain ⟨H', d1, d2⟩ := main p h2 fun o hs => R.mutS he rfl rfl h1 fun H' st hp => ⟨p, rfl, hs H' st hp⟩
        exact ⟨p, H', rfl, d1, d2⟩
      · cases e
    | u u0 =>
      have q' : RU a.K a.cls w H u0 x := q
      cases u0 <;> first | (cases e; done) | skip
      rename_i i
      simp only [dcH] at e
      split at e
      · rename_i t0 us0 he
        cases e
        cases q' with
        | @ref p _ hr =>
          obtain ⟨H', d1, d2⟩ := main p (R.cell i _ _ he hr) fun o hs => R.mutC he rfl hr hs
          exact ⟨p, H', rfl, d1, d2⟩
      · cases e
  · rw [if_neg hl] at ep; cases ep
end
end EL
set_option Elab.async false
set_option linter.all false
set_option maxRecDepth 100000
/-! EC12: append, pop, o[i] = v; tests. -/
namespace EL
open PySem PySem.Spec PyProof.Rows L2

/-- go on where g holds -/
def chk {α β : Type} (g : S → Option α) (k : M β) : M β := fun Φ s => match g s with
  | some _ => k Φ s
  | none => none
/-- a value and a new state -/
def act {α : Type} (g : S → Option (α × S)) : M α := fun _ s => match g s with
  | some (x, s') => some (.ok x s')
  | none => none
def appS (s : S) (h : Hd) (u : U) : Option (U × S) := match lstH s h with
  | some us => if us.length < line then some (.non, setH s h (us ++ [u])) else none
  | none => none
def eApp (mh : M Hd) (m : M U) : M U := bnd mh fun h => chk (fun s => lstH s h) (bnd m fun u => act fun s => appS s h u)
def popS (s : S) (h : Hd) : Option (U × S) := match lstH s h with
  | some us => (match us[us.length - 1]? with
    | some u => some (u, setH s h us.dropLast)
    | none => none)
  | none => none
def ePop (mh : M Hd) : M U := bnd mh fun h => act fun s => popS s h
def pop0S (s : S) (h : Hd) (i : U) : Option (U × S) := match lstH s h, i with
  | some (u :: us), .int 0 => some (u, setH s h us)
  | _, _ => none
def ePopAt (mh : M Hd) (m : M U) : M U := bnd mh fun h => chk (fun s => lstH s h) (bnd m fun i => act fun s => pop0S s h i)
def itemS (s : S) (h : Hd) (i v : U) : Option (Fl × S) := match lstH s h with
  | some us => (match i with
    | .int k => (L2.ixN us.length k).map fun j => (.nx, setH s h (us.set j v))
    | _ => none)
  | none => (match dcH s h with
    | some (t, kvs) => (put t kvs i v).map fun kvs' => (.nx, setD s h t kvs')
    | none => none)
def sItem (mh : M Hd) (mi m : M U) : M Fl := bnd m fun v => bnd mh fun h => bnd mi fun i => act fun s => itemS s h i v

section
variable {α β : Type} {a : Act} {Φ : Phi} {w : W} {σ : L2.St} {H : Hp} {s : S}
theorem Sat.chk {γ : Type} {g : S → Option γ} {k : M α} {rel : W → Hp → α → β → Prop} {Q : β → Hp → Prop} (h : Sat a Φ w σ H s (EL.chk g k) rel Q) : (∃ x, g s = some x) ∧ Sat a Φ w σ H s k rel Q := by
  obtain ⟨R, h⟩ := h
  unfold EL.chk at h
  cases e : g s with
  | none => rw [e] at h; exact h.elim
  | some x => rw [e] at h; exact ⟨⟨x, rfl⟩, R, h⟩
theorem Sat.act {g : S → Option (α × S)} {rel : W → Hp → α → β → Prop} {Q : β → Hp → Prop} (h : Sat a Φ w σ H s (EL.act g) rel Q) : ∃ x s', g s = some (x, s') ∧ Rel a w s.env s.hp σ H ∧ Out a w σ H s' rel x Q := by
  obtain ⟨R, h⟩ := h
  unfold EL.act at h
  cases e : g s with
  | none => rw [e] at h; exact h.elim
  | some z => rw [e] at h; obtain ⟨x, s'⟩ := z; exact ⟨x, s', rfl, R, h⟩
theorem SatS.act {g : S → Option (Fl × S)} {D : Ends} (h : SatS a Φ w σ H s (EL.act g) D) : ∃ x s', g s = some (x, s') ∧ Rel a w s.env s.hp σ H ∧ OutS a w H s' x D := by
  obtain ⟨R, h⟩ := h
  unfold EL.act at h
  cases e : g s with
  | none => rw [e] at h; exact h.elim
  | some z => rw [e] at h; obtain ⟨x, s'⟩ := z; exact ⟨x, s', rfl, R, h⟩
theorem SatS.bnd {m : M α} {k : α → M Fl} {r1 : W → Hp → α → β → Prop} {D : Ends} {P : β → Hp → Prop} (h : SatS a Φ w σ H s (EL.bnd m k) D)
    (f : ∀ (w : W) (H : Hp) (s : S) (x : α) (y : β), r1 w H x y → SatS a Φ w σ H s (k x) D → P y H) : TR a Φ m r1 σ H P := TSs.one (r1 := r1) ⟨w, s, h⟩ f
theorem Sat.bndT {γ δ : Type} {m : M α} {k : α → M γ} {r1 : W → Hp → α → β → Prop} {r2 : W → Hp → γ → δ → Prop} {Q : δ → Hp → Prop} {P : β → Hp → Prop} (h : Sat a Φ w σ H s (EL.bnd m k) r2 Q)
    (f : ∀ (w' : W) (H' : Hp) (s : S) (x : α) (y : β), Stp w H w' H' → r1 w' H' x y → Sat a Φ w' σ H' s (k x) r2 Q → P y H') : TR a Φ m r1 σ H P := by
  obtain ⟨R, q⟩ := Sat.bnd (r1 := r1) h
  refine ⟨w, s, R, ?_⟩
  cases e : m Φ s with
  | none => rw [e] at q; exact q
  | some z =>
    rw [e] at q
    cases z with
    | ok x s' =>
      intro w1 H1 y st R1 rx
      obtain ⟨w2, x2, s2, st2, r2', h2⟩ := q w1 H1 y st R1 rx
      exact f w2 H1 s2 x2 y st2 r2' h2
    | ex c g v s' => exact q
theorem SatS.bndT {m : M α} {k : α → M Fl} {r1 : W → Hp → α → β → Prop} {D : Ends} {P : β → Hp → Prop} (h : SatS a Φ w σ H s (EL.bnd m k) D)
    (f : ∀ (w' : W) (H' : Hp) (s : S) (x : α) (y : β), Stp w H w' H' → r1 w' H' x y → SatS a Φ w' σ H' s (k x) D → P y H') : TR a Φ m r1 σ H P := by
  obtain ⟨R, h⟩ := h
  refine ⟨w, s, R, ?_⟩
  unfold EL.bnd at h
  cases e : m Φ s with
  | none => rw [e] at h; exact h.elim
  | some r =>
    rw [e] at h
    cases r with
    | ex c g v s' => exact h
    | ok x s' => exact fun w1 H1 y st R1 rx => f w1 H1 s' x y st rx (SatS.run R1 h st)
end

section
variable {a : Act} {X : Cx} {Φ : Phi} {e e1 e2 e3 : Expr} {es : List Expr} {ms : M (List U)} {m m1 m2 m3 : M U} {mh : M Hd} {apos cpos pos pos' : Pos} {w : W} {σ : L2.St} {H : Hp} {s : S} {t t1 t2 : M Bool}
theorem rlst_ty {K : PySem.W.Frag} {p : Addr} {vs : List V} (h : H p = some (.lst vs)) : tyV K "list" (.ref p) H := .inl ⟨rfl, vs, SqL.of h⟩
theorem appS_some {s s' : S} {h : Hd} {u z : U} (e : appS s h u = some (z, s')) : ∃ us, lstH s h = some us ∧ us.length < line ∧ z = .non ∧ s' = setH s h (us ++ [u]) := by
  unfold appS at e
  cases q : lstH s h with
  | none => rw [q] at e; cases e
  | some us =>
    rw [q] at e
    by_cases hl : us.length < line
    · simp only [hl, if_true] at e; cases e; exact ⟨us, rfl, hl, rfl, rfl⟩
    · simp only [hl, if_false] at e; cases e
theorem se_app (h1 : SH X a Φ e1 mh) (h2 : SE X a Φ e2 m) (hbase : attributeBase e1 "append" X.env (eval e1 X.env) = eval e1 X.env)
    (hline : (apos.endLine == cpos.line) = true) (hs : starEach [e2] X.env = (false, eval e2 X.env) :: starEach [] X.env) : SE X a Φ (.Call (.Attribute e1 "append" apos) [e2] [] cpos) (eApp mh m) :=
  PE.imp (pe_bm PySem.F.plainAttrs_list PySem.F.slot_list_append PySem.F.type_list_append mt_append h1 (pa_cons h2 pa_nil hs) hbase (by rw [hs]; rfl) hline hs rfl) fun σ H Q q => TR.one q fun w H s h x rx k => by
    obtain ⟨⟨us, e⟩, k⟩ := Sat.chk k
    obtain ⟨p, vs, rfl, hp, r, _⟩ := lst_spec k.1 rx e
    refine ⟨rlst_ty hp, Sat.bndT k fun w2 H2 s2 u y st ru k2 => ?_⟩
    obtain ⟨z, s', e2, R, k3⟩ := Sat.act k2
    obtain ⟨us2, h1, hl, rfl, rfl⟩ := appS_some e2
    obtain ⟨p', vs2, ep, hp2, r2, mu⟩ := lst_spec R (rx.mono st) h1
    cases ep
    obtain ⟨R', st'⟩ := mu (us2 ++ [u]) (vs2 ++ [y]) (r2.append (.cons ru .nil))
    exact ⟨p, vs2, y, rfl, rfl, hp2, by rw [← r2.length]; exact hl, k3 _ _ _ st' R' .non⟩
theorem popS_some {s s' : S} {h : Hd} {z : U} (e : popS s h = some (z, s')) : ∃ us, lstH s h = some us ∧ us[us.length - 1]? = some z ∧ s' = setH s h us.dropLast := by
  unfold popS at e
  cases q : lstH s h with
  | none => rw [q] at e; cases e
  | some us =>
    rw [q] at e
    cases q2 : us[us.length - 1]? with
    | none => simp only [q2] at e; cases e
    | some u => simp only [q2] at e; cases e; exact ⟨us, rfl, q2, rfl⟩
theorem se_pop (h1 : SH X a Φ e1 mh) (hbase : attributeBase e1 "pop" X.env (eval e1 X.env) = eval e1 X.env)
    (hline : (apos.endLine == cpos.line) = true) : SE X a Φ (.Call (.Attribute e1 "pop" apos) [] [] cpos) (ePop mh) :=
  PE.imp (pe_bm0 PySem.F.plainAttrs_list PySem.F.slot_list_pop PySem.F.type_list_pop mt_pop h1 hbase hline) fun σ H Q q => TR.one q fun w H s h x rx k => by
    obtain ⟨z, s', e2, R, k3⟩ := Sat.act k
    obtain ⟨us, h1, hz, rfl⟩ := popS_some e2
    obtain ⟨p, vs, rfl, hp, r, mu⟩ := lst_spec R rx h1
    obtain ⟨y, hy, ry⟩ := r.get hz
    obtain ⟨R', st'⟩ := mu us.dropLast vs.dropLast r.dropLast
    exact ⟨rlst_ty hp, p, vs, y, rfl, rfl, hp, by rw [← r.length]; exact hy, k3 _ _ _ st' R' (ry.mono st')⟩
theorem pop0S_some {s s' : S} {h : Hd} {i z : U} (e : pop0S s h i = some (z, s')) : ∃ us, lstH s h = some (z :: us) ∧ i = .int 0 ∧ s' = setH s h us := by
  unfold pop0S at e
  split at e
  · rename_i q; cases e; exact ⟨_, q, rfl, rfl⟩
  · cases e
theorem se_popAt (h1 : SH X a Φ e1 mh) (h2 : SE X a Φ e2 m) (hbase : attributeBase e1 "pop" X.env (eval e1 X.env) = eval e1 X.env)
    (hline : (apos.endLine == cpos.line) = true) (hs : starEach [e2] X.env = (false, eval e2 X.env) :: starEach [] X.env) : SE X a Φ (.Call (.Attribute e1 "pop" apos) [e2] [] cpos) (ePopAt mh m) :=
  PE.imp (pe_bm PySem.F.plainAttrs_list PySem.F.slot_list_pop PySem.F.type_list_pop mt_popAt h1 (pa_cons h2 pa_nil hs) hbase (by rw [hs]; rfl) hline hs rfl) fun σ H Q q => TR.one q fun w H s h x rx k => by
    obtain ⟨⟨us, e⟩, k⟩ := Sat.chk k
    obtain ⟨p, vs, rfl, hp, r, _⟩ := lst_spec k.1 rx e
    refine ⟨rlst_ty hp, Sat.bndT k fun w2 H2 s2 u y st ru k2 => ?_⟩
    obtain ⟨z, s', e2, R, k3⟩ := Sat.act k2
    obtain ⟨us2, h1, rfl, rfl⟩ := pop0S_some e2
    obtain ⟨p', vs2, ep, hp2, r2, mu⟩ := lst_spec R (rx.mono st) h1
    cases ep
    cases ru
    cases r2 with
    | @cons _ v1 _ vs1 r1 rt =>
      obtain ⟨R', st'⟩ := mu us2 vs1 rt
      exact ⟨p, v1 :: vs1, 0, 0, v1, rfl, rfl, hp2, by decide, by decide, seqIndex_of (by decide) (by simp only [List.length_cons]; omega), rfl, k3 _ _ _ st' R' (r1.mono st')⟩
/-! ### o[i] = v -/
def rSetD : V → V → V → Hp → (Hp → Prop) → Prop := fun o i v H Q => ∃ p H', o = .ref p ∧ DPut H p i v H' ∧ Q H'
theorem set_dict (hu : X.A.units + 1 < cLine) : PSet X rSetD := by
  intro pins s σ H o i v ov iv u Q I ro ri rv h
  obtain ⟨p, H', rfl, g, q⟩ := h
  cases ro
  exact d_setItem hu I g ri rv fun s4 I4 => ⟨H', I4, q⟩
theorem PSet.or {r r' : TSet} (h : PSet X r) (h' : PSet X r') : PSet X (fun o i v H Q => r o i v H Q ∨ r' o i v H Q) := by
  intro pins s σ H o i v ov iv u Q I ro ri rv q
  rcases q with q | q
  · exact h pins s σ H o i v ov iv u Q I ro ri rv q
  · exact h' pins s σ H o i v ov iv u Q I ro ri rv q
theorem ss_item (hu : X.A.units + 65 < cLine) (h1 : SH X a Φ e1 mh) (h2 : SE X a Φ e2 m2) (h : SE X a Φ e m)
    (ha : ∀ v, assign (.Subscript e1 e2 pos') X.env v = (do
      let ov ← holding [v] (eval e1 X.env)
      let iv ← holding [v, ov] (eval e2 X.env)
      standAt pos'
      holding [v, ov, iv] (setItem ov iv v)
      release [v, ov, iv] []))
    (hs : swapsWithSole [.Subscript e1 e2 pos'] e pos.line X.env = pure false) (hw : swappedStores [.Subscript e1 e2 pos'] e X.env = pure none) : SS X a Φ (.Assign [.Subscript e1 e2 pos'] e pos) (sItem mh m2 m) :=
  PS.imp (ps_asg h (pg_sub h1 h2 (PSet.or set_list (set_dict (by omega))) ha) hs hw) fun D σ H q => TSs.one (r1 := relU a) q fun w H s u v ru k => SatS.bndT k fun w1 H1 s1 hd x st1 rx k1 => SatS.bndT k1 fun w2 H2 s2 i y st2 ri k2 => by
    obtain ⟨fl, s', e3, R, k3⟩ := SatS.act k2
    unfold itemS at e3
    cases q : lstH s2 hd with
    | some us =>
      simp only [q] at e3
      split at e3
      · rename_i kk
        cases q2 : ixN us.length kk with
        | none => rw [q2] at e3; cases e3
        | some j =>
          rw [q2] at e3; cases e3
          obtain ⟨p, vs, rfl, hp, r, mu⟩ := lst_spec R (rx.mono st2) q
          cases ri
          have ru2 := ru.mono (st1.trans st2)
          obtain ⟨R', st'⟩ := mu (us.set j u) (vs.set j v) (r.set ru2 j)
          exact .inl ⟨p, vs, kk, j, rfl, rfl, hp, by rw [← r.length]; exact q2, k3 _ _ _ st' R'⟩
      · cases e3
    | none =>
      simp only [q] at e3
      cases q2 : dcH s2 hd with
      | none => simp only [q2] at e3; cases e3
      | some z =>
        obtain ⟨t, kvs⟩ := z
        simp only [q2] at e3
        cases q3 : put t kvs i u with
        | none => rw [q3] at e3; cases e3
        | some kvs' =>
          rw [q3] at e3; cases e3
          obtain ⟨p, H', rfl, dp, R', st'⟩ := put_spec R (rx.mono st2) q2 ri (ru.mono (st1.trans st2)) q3
          exact .inr ⟨p, H', rfl, dp, k3 _ _ _ st' R'⟩

/-! ### tests -/
theorem st_cop (hK : X.K = a.K) (hu : X.A.units + 65 < cLine) (o : COp) (h1 : SE X a Φ e1 m1) (h2 : SE X a Φ e2 m2) : STt X a Φ (.Compare e1 [copOf o] [e2] pos) (tV (eCop o m1 m2)) :=
  PT.imp (pt_cmpR (op_cop (by omega) o) h1 h2 (nobehind e2 (by cases o <;> decide) (by cases o <;> decide))) fun σ H Q h => by
    have h' : TR a Φ (eCop o m1 m2) (relU a) σ H fun x H1 => ∃ k, x = .bl k ∧ Q k H1 := TR.one h fun w H s u x rx q => by
      cases u <;> first | exact q.2.elim | skip
      cases rx
      exact ⟨_, rfl, Out.now (Sat.ret q) q.1 rfl⟩
    exact TR.two (monoU a) h' fun w H s u v x y rx ry q => by
      obtain ⟨z, e, R, k⟩ := Sat.fin q
      rw [hK]
      cases q : cop o u v with
      | none => rw [q] at e; cases e
      | some b => rw [q] at e; cases e; exact cop_spec (Q := fun x H' => ∃ k, x = .bl k ∧ Q k H') rx ry q (Out.now k R (.bl b))
theorem st_mem (hK : X.K = a.K) (hu : X.A.units + 65 < cLine) (neg : Bool) (h1 : SE X a Φ e1 m1) (h2 : SH X a Φ e2 mh) (hb : behindInMarks (inOp neg) e2 = false) : STt X a Φ (.Compare e1 [inOp neg] [e2] pos) (tV (eMem neg m1 mh)) :=
  PT.imp (pt_cmpR (op_mem hu neg) h1 h2 hb) fun σ H Q h => by
    have h' : TR a Φ (eMem neg m1 mh) (relU a) σ H fun x H1 => ∃ k, x = .bl k ∧ Q k H1 := TR.one h fun w H s u x rx q => by
      cases u <;> first | exact q.2.elim | skip
      cases rx
      exact ⟨_, rfl, Out.now (Sat.ret q) q.1 rfl⟩
    exact TR.two (monoU a) h' fun w H s u v x y rx ry q => by
      obtain ⟨z, e, R, k⟩ := Sat.lk q
      rw [hK]
      cases q : memU s u v with
      | none => rw [q] at e; cases e
      | some b => rw [q] at e; cases e; exact mem_spec (Q := fun x H' => ∃ k, x = .bl k ∧ Q k H') R rx ry q (Out.now k R (.bl _))
/-- chains: m1 o m2 o' m3 -/
def eChain (o o' : COp) (m1 m2 m3 : M U) : M U := bnd m1 fun u => bnd m2 fun v => bnd (ofO (cop o u v)) fun b => if b = true then bnd m3 fun z => ofO ((cop o' v z).map U.bl) else ret (.bl false)
theorem chain_imp {σ : L2.St} {H : Hp} {Q : VK} {K : PySem.W.Frag} (hK : K = a.K) (o o' : COp) (h : TR a Φ (eChain o o' m1 m2 m3) (relU a) σ H Q) : tChain (rCop K o) (rCop K o') (fun σ H Q => TR a Φ m1 (relU a) σ H Q) (fun σ H Q => TR a Φ m2 (relU a) σ H Q) (fun σ H Q => TR a Φ m3 (relU a) σ H Q) σ H Q :=
  TR.two (monoU a) h fun w H s u v x y rx ry q => by
    rw [hK]
    obtain ⟨R, q⟩ := q
    unfold bnd ofO at q
    cases e : cop o u v with
    | none => rw [e] at q; exact q.elim
    | some b =>
      rw [e] at q
      refine cop_spec (Q := fun z H3 => ∃ k, z = .bl k ∧ (if k = true then TR a Φ m3 (relU a) σ H3 (fun w' H4 => rCop a.K o' y w' H4 Q) else Q (.bl false) H3)) rx ry e ⟨b, rfl, ?_⟩
      cases b with
      | true =>
        rw [if_pos rfl]
        have q' : Sat a Φ w σ H s (bnd m3 fun z => EL.ofO ((cop o' v z).map U.bl)) (relU a) Q := ⟨R, q⟩
        refine Sat.bndT q' fun w3 H3 s3 z zv st rz k => ?_
        obtain ⟨z', e3, R3, k3⟩ := Sat.fin k
        cases e4 : cop o' v z with
        | none => rw [e4] at e3; cases e3
        | some b => rw [e4] at e3; cases e3; exact cop_spec (ry.mono st) rz e4 (Out.now k3 R3 (.bl b))
      | false => rw [if_neg Bool.false_ne_true]; exact Out.now (x := U.bl false) q R (.bl false)
theorem se_chain (hK : X.K = a.K) (hu : X.A.units + 65 < cLine) (o o' : COp) (h1 : SE X a Φ e1 m1) (h2 : SE X a Φ e2 m2) (h3 : SE X a Φ e3 m3) (hm : lastMarks [copOf o, copOf o'] [e2, e3] = false) : SE X a Φ (.Compare e1 [copOf o, copOf o'] [e2, e3] pos) (eChain o o' m1 m2 m3) :=
  PE.imp (pe_chain (op_cop (by omega) o) (op_cop (by omega) o') h1 h2 h3 hm) fun σ H Q h => chain_imp hK o o' h
/-- truth of a value -/
def truU (s : S) (h : Hd) : Option Bool := match seqOf s h with
  | some (_, us) => some (!us.isEmpty)
  | none => (match h with
    | .u .non => some false
    | .u (.bl b) => some b
    | .u (.int i) => some (i != 0)
    | _ => none)
def tTru (mh : M Hd) : M Bool := bnd mh fun h => look' fun s => truU s h
theorem emp_len {α β : Type} {l : List α} {k : List β} (h : l.length = k.length) : l.isEmpty = k.isEmpty := by
  cases l <;> cases k <;> simp at h ⊢
theorem st_tru (hK : X.K = a.K) (h : SH X a Φ e mh) (he : ∀ whole, isTrue e X.env whole = (do let v ← whole; standAt e.pos; holding [v] (truthy v))) : STt X a Φ e (tTru mh) :=
  PT.imp (pt_truth h he) fun σ H Q q => TR.one q fun w H s u x rx k => by
    obtain ⟨b, e, R, k⟩ := Sat.lk k
    refine ⟨b, ?_, Out.now k R rfl⟩
    rw [hK]
    unfold truU at e
    cases q1 : seqOf s u with
    | some z =>
      obtain ⟨t, us⟩ := z
      simp only [q1] at e
      cases e
      obtain ⟨p, vs, rfl, r, hs⟩ := seq_spec R rx q1
      rw [emp_len r.length]
      rcases hs.or with hs | hs
      · exact .inl ⟨vs, hs, rfl⟩
      · exact .inr (.inl ⟨vs, hs, rfl⟩)
    | none =>
      simp only [q1] at e
      split at e
      · cases e; cases rx; rfl
      · cases e; cases rx; rfl
      · cases e; cases rx; rfl
      · cases e
end
end EL
set_option Elab.async false
set_option linter.all false
set_option maxRecDepth 100000
/-! ED1: instances: fields, methods, making. -/
namespace EL
open PySem PySem.Spec PyProof.Rows L2

section
variable {K : PySem.W.Frag} {cls : Cl} {w : W} {H : Hp}
theorem RFs.lookup {f : Str} {u : U} : ∀ {fs : List (Str × U)} {gs : List (Str × V)}, RFs K cls w H fs gs → fs.lookup f = some u → ∃ v, gs.lookup f = some v ∧ RU K cls w H u v
  | _, _, .nil, e => by cases e
  | _, _, @RFs.cons _ _ _ _ g u' v us vs r t, e => by
    rw [List.lookup_cons] at e ⊢
    cases q : f == g with
    | true => rw [q] at e; cases e; exact ⟨_, rfl, r⟩
    | false => rw [q] at e; exact RFs.lookup t e
theorem RFs.none {f : Str} : ∀ {fs : List (Str × U)} {gs : List (Str × V)}, RFs K cls w H fs gs → fs.lookup f = none → gs.lookup f = none
  | _, _, .nil, e => rfl
  | _, _, @RFs.cons _ _ _ _ g u' v us vs r t, e => by
    rw [List.lookup_cons] at e ⊢
    cases q : f == g with
    | true => rw [q] at e; cases e
    | false => rw [q] at e; exact RFs.none t e
theorem RFs.length : ∀ {fs : List (Str × U)} {gs : List (Str × V)}, RFs K cls w H fs gs → fs.length = gs.length
  | _, _, .nil => rfl
  | _, _, .cons _ t => by rw [List.length_cons, List.length_cons, RFs.length t]
def putFU (f : Str) (v : U) : List (Str × U) → List (Str × U)
  | [] => [(f, v)]
  | (g, x) :: r => if g = f then (g, v) :: r else (g, x) :: putFU f v r
theorem RFs.put {f : Str} {u : U} {v : V} (r : RU K cls w H u v) : ∀ {fs : List (Str × U)} {gs : List (Str × V)}, RFs K cls w H fs gs → RFs K cls w H (putFU f u fs) (L2.putF f v gs)
  | _, _, .nil => .cons r .nil
  | _, _, @RFs.cons _ _ _ _ g u' v' us vs r' t => by
    unfold putFU L2.putF
    by_cases h : g = f
    · rw [if_pos h, if_pos h]; exact .cons r t
    · rw [if_neg h, if_neg h]; exact .cons r' (RFs.put r t)
theorem lookup_putFU (f g : Str) (v : U) : ∀ fs : List (Str × U), (putFU f v fs).lookup g = if g = f then some v else fs.lookup g
  | [] => by
    unfold putFU
    rw [List.lookup_cons]
    by_cases h : g = f
    · rw [if_pos h]; subst h; simp
    · have h' : (g == f) = false := by simpa using h
      rw [if_neg h, h']
  | (k, x) :: r => by
    unfold putFU
    by_cases h : k = f
    · rw [if_pos h, List.lookup_cons, List.lookup_cons]
      subst h
      by_cases q : g = k
      · subst q; simp
      · have q' : (g == k) = false := by simpa using q
        rw [if_neg q, q']
    · rw [if_neg h, List.lookup_cons, List.lookup_cons, lookup_putFU f g v r]
      by_cases q : g = k
      · subst q; simp [h]
      · have q' : (g == k) = false := by simpa using q
        rw [q']
theorem OkC.put {C : Addr} {f : Str} {v : U} {fs : List (Str × U)} (h : OkC K C fs) (n : NoAttr K C f) : OkC K C (putFU f v fs) := ⟨h.1, fun g u e => by
  rw [lookup_putFU] at e
  by_cases q : g = f
  · rw [q]; exact n
  · rw [if_neg q] at e; exact h.2 g u e⟩
end

/-! ### fields -/
def fldU (s : S) (u : U) (f : Str) : Option U := match u with
  | .obj _ fs => fs.lookup f
  | .ref i => match s.hp[i]? with
    | some (.ins _ fs) => fs.lookup f
    | _ => none
  | _ => none
def eFld (f : Str) (m : M U) : M U := bnd m fun u => look' fun s => fldU s u f
def setFS (s : S) (c f : Str) (o v : U) : Option (Fl × S) := match o with
  | .ref i => match s.hp[i]? with
    | some (.ins c' fs) => if c' = c ∧ fs.length < 1000 then some (.nx, ⟨s.env, s.hp.set i (.ins c (putFU f v fs))⟩) else none
    | _ => none
  | _ => none
def sFldS (c f : Str) (mo m : M U) : M Fl := bnd m fun v => bnd mo fun o => act fun s => setFS s c f o v
section
variable {a : Act} {X : Cx} {Φ : Phi} {e o : Expr} {es : List Expr} {m mo : M U} {pos pos' apos : Pos} {f c : Str}
theorem obj_in {w : W} {s : S} {σ : L2.St} {H : Hp} (R : Rel a w s.env s.hp σ H) {i : Nat} {p : Addr} {c : Str} {fs : List (Str × U)} (h : w.ρ[i]? = some p) (e : s.hp[i]? = some (.ins c fs)) : ∃ dx gs, H p = some (.ins (a.cls c) dx gs) ∧ RFs a.K a.cls w H fs gs ∧ OkC a.K (a.cls c) fs := by
  have q := R.cell i _ p e h
  cases q with
  | ins h1 h2 h3 => exact ⟨_, _, h1, h2, h3⟩
theorem se_fld (hK : X.K = a.K) (h : SE X a Φ e m) (hb : attributeBase e f X.env (eval e X.env) = eval e X.env) : SE X a Φ (.Attribute e f pos) (eFld f m) :=
  PE.imp (pe_fld h hb) fun σ H Q q => TR.one q fun w H s u x rx k => by
    obtain ⟨z, e1, R, k2⟩ := Sat.lk k
    rw [hK]
    unfold fldU at e1
    cases u <;> first | (cases e1; done) | skip
    · rename_i c fs
      cases rx with
      | obj h1 h2 h3 h4 =>
        obtain ⟨v, g1, g2⟩ := h3.lookup e1
        exact ⟨_, _, _, _, v, rfl, h2, h4.1, h4.2 f z e1, g1, Out.now k2 R g2⟩
    · rename_i i
      cases rx with
      | ref h1 =>
        simp only at e1
        cases q : s.hp[i]? with
        | none => rw [q] at e1; cases e1
        | some eo =>
          rw [q] at e1
          cases eo <;> first | (cases e1; done) | skip
          obtain ⟨dx, gs, h2, h3, h4⟩ := obj_in R h1 q
          obtain ⟨v, g1, g2⟩ := h3.lookup e1
          exact ⟨_, _, _, _, v, rfl, h2, h4.1, h4.2 f z e1, g1, Out.now k2 R g2⟩
theorem ss_fld (hK : X.K = a.K) (hn : NoAttr a.K (a.cls c) f) (ho : SE X a Φ o mo) (h : SE X a Φ e m) (hs : swapsWith e (some (.Attribute o f pos')) pos.line X.env = pure false) : SS X a Φ (.Assign [.Attribute o f pos'] e pos) (sFldS c f mo m) :=
  PS.imp (ps_fld ho h hs) fun D σ H q => TSs.one (r1 := relU a) q fun w H s u v ru k => SatS.bndT k fun w1 H1 s1 ob x st rx k1 => by
    obtain ⟨fl, s', e1, R, k2⟩ := SatS.act k1
    rw [hK]
    unfold setFS at e1
    cases ob <;> first | (cases e1; done) | skip
    rename_i i
    cases rx with
    | @ref p _ h1 =>
      simp only at e1
      cases q : s1.hp[i]? with
      | none => rw [q] at e1; cases e1
      | some eo =>
        rw [q] at e1
        cases eo <;> first | (cases e1; done) | skip
        rename_i c' fs
        simp only at e1
        split at e1
        · rename_i hc
          cases e1
          obtain ⟨dx, gs, h2, h3, h4⟩ := obj_in R h1 q
          rw [hc.1] at h2 h4
          have ru2 := ru.mono st
          obtain ⟨R', st'⟩ := Rel.mutC (o := .ins (a.cls c) dx (L2.putF f v gs)) (e1 := .ins c (putFU f u fs)) R q rfl h1 fun H' st2 e3 => .ins e3 ((h3.put ru2).mono st2) (h4.put hn)
          exact ⟨p, _, dx, gs, rfl, h2, h4.1, hn, by rw [← h3.length]; exact hc.2, k2 _ _ _ st' R'⟩
        · cases e1
end

/-! ### methods -/
/-- o is an instance of c, without an attribute m of its own -/
def isC (s : S) (c m : Str) (o : U) : Option Unit := match o with
  | .obj c' fs => if c' = c ∧ (fs.lookup m).isNone = true then some () else none
  | .ref i => match s.hp[i]? with
    | some (.ins c' fs) => if c' = c ∧ (fs.lookup m).isNone = true then some () else none
    | _ => none
  | _ => none
def eMeth (c m q : Str) (np : Nat) (mo : M U) (ms : M (List U)) : M U := bnd mo fun o => chk (fun s => isC s c m o) (bnd ms fun us => if us.length + 1 = np then callM q (o :: us) else fail)
def tMethE (C : Addr) (m : Str) (sp : Sp) (E : L2.St → XK) (ta : TE) (t : TA) : TE := fun σ H Q => ta σ H fun x H1 => ∃ a dx fs, x = .ref a ∧ H1 a = some (.ins C dx fs) ∧ fs.lookup m = none ∧
  t σ H1 fun vs H2 => sp (x :: vs) H2 Q (E σ)
section
variable {X : Cx} {CX : CXT} {k : Nat} {f C : Addr} {fd : FuncData} {ps : List Str} {sp : Sp} {E : L2.St → XK} {m : Str} {pos apos : Pos} {e o : Expr} {es : List Expr} {ta : TE} {t : TA}
theorem pe_methE {pl : Sem Bool} (he : PE X o ta) (c : Cls X.K C) (hm : Meth X.K C m f) (F : FnOk X.prog X.w X.K X.mg X.base CX k f fd ps sp) (hr : Room k X.A) (hb : Binds X.K fd ps []) (hx : ∀ σ, PassesAt CX X σ (E σ)) (ha : PA X (e :: es) t)
    (hst : starEach (e :: es) X.env = (false, eval e X.env) :: starEach es X.env) (hpl : (backTo pos (starEach es X.env)).any (·.1) = false)
    (ht : eval (.Call (.Attribute o m apos) (e :: es) [] pos) X.env = (do
      let ov ← eval o X.env
      standAt apos.atName
      let (f, first) ← holding [ov] (getMethod ov m pl)
      callWith pos f first (backTo pos (starEach (e :: es) X.env)) (backToKw pos (keywordEach [] X.env)))) : PE X (.Call (.Attribute o m apos) (e :: es) [] pos) (tMethE C m sp E ta t) :=
  ⟨fun pins s σ H Q I h => PySem.W.methodCall_KW (pl := pl) (thn (he.run pins s σ H _ I h) fun u s1 ⟨x, H1, I1, rx, a, dx, fs, ex, ea, l, q⟩ => by
    subst ex
    obtain rfl : u = Value.ref a := rx
    exact getmeth_ok I1 ea c hm l (PySem.W.callWith_K (first := [.ref a]) (h₀ := X.base) I.ok.mod.kin hm.kp (thn (ha.run pos pins s1 σ H1 _ I1 q) fun us s2 ⟨vs, H2, I2, r, q2⟩ => ⟨I2.kIn, run_fnS (us := .ref a :: us) (vs := .ref a :: vs) F hr hb (hx σ) I2 (.cons rfl r) q2⟩) hst hpl)) ht⟩
theorem pe_methE0 {pl : Sem Bool} (he : PE X o ta) (c : Cls X.K C) (hm : Meth X.K C m f) (F : FnOk X.prog X.w X.K X.mg X.base CX k f fd ps sp) (hr : Room k X.A) (hb : Binds X.K fd ps []) (hx : ∀ σ, PassesAt CX X σ (E σ))
    (ht : eval (.Call (.Attribute o m apos) [] [] pos) X.env = (do
      let ov ← eval o X.env
      standAt apos.atName
      let (f, first) ← holding [ov] (getMethod ov m pl)
      callWith pos f first (backTo pos (starEach [] X.env)) (backToKw pos (keywordEach [] X.env)))) : PE X (.Call (.Attribute o m apos) [] [] pos) (tMethE C m sp E ta tNil) :=
  ⟨fun pins s σ H Q I h => PySem.W.methodCall_KW (pl := pl) (thn (he.run pins s σ H _ I h) fun u s1 ⟨x, H1, I1, rx, a, dx, fs, ex, ea, l, q⟩ => by
    subst ex
    obtain rfl : u = Value.ref a := rx
    exact getmeth_ok I1 ea c hm l (PySem.W.callWith_K0 (first := [.ref a]) I1.kIn hm.kp (run_fnS (us := [.ref a]) (vs := [.ref a]) F hr hb (hx σ) I1 (.cons rfl .nil) q))) ht⟩
end
section
variable {a : Act} {X : Cx} {Φ : Phi} {e o : Expr} {es : List Expr} {mo : M U} {ms : M (List U)} {pos apos : Pos} {c m q : Str} {np k : Nat} {f : Addr} {fd : FuncData} {ps : List Str}
theorem isC_spec {w : W} {s : S} {σ : L2.St} {H : Hp} (R : Rel a w s.env s.hp σ H) {u : U} {x : V} (rx : RU a.K a.cls w H u x) (h : isC s c m u = some ()) : ∃ p dx gs, x = .ref p ∧ H p = some (.ins (a.cls c) dx gs) ∧ gs.lookup m = none := by
  unfold isC at h
  cases u <;> first | (cases h; done) | skip
  · simp only at h
    split at h
    · rename_i hc
      cases rx with
      | obj h1 h2 h3 h4 =>
        rw [hc.1] at h2
        exact ⟨_, _, _, rfl, h2, h3.none (Option.isNone_iff_eq_none.mp hc.2)⟩
    · cases h
  · rename_i i
    cases rx with
    | ref h1 =>
      simp only at h
      cases q : s.hp[i]? with
      | none => rw [q] at h; cases h
      | some eo =>
        rw [q] at h
        cases eo <;> first | (cases h; done) | skip
        simp only at h
        split at h
        · rename_i hc
          obtain ⟨dx, gs, h2, h3, h4⟩ := obj_in R h1 q
          rw [hc.1] at h2
          exact ⟨_, _, _, rfl, h2, h3.none (Option.isNone_iff_eq_none.mp hc.2)⟩
        · cases h
theorem se_meth {pl : Sem Bool} (hK : X.K = a.K) (ho : SE X a Φ o mo) (hc : Cls X.K (a.cls c)) (hm : Meth X.K (a.cls c) m f) (F : FnOk X.prog X.w X.K X.mg X.base (L2.CX X.prog X.w) k f fd ps (spE X.K a.cls Φ q np)) (hr : Room k X.A) (hb : Binds X.K fd ps [])
    (tk : Takes X a.E) (ha : SA X a Φ (e :: es) ms) (hst : starEach (e :: es) X.env = (false, eval e X.env) :: starEach es X.env) (hpl : (backTo pos (starEach es X.env)).any (·.1) = false)
    (ht : eval (.Call (.Attribute o m apos) (e :: es) [] pos) X.env = (do
      let ov ← eval o X.env
      standAt apos.atName
      let (f, first) ← holding [ov] (getMethod ov m pl)
      callWith pos f first (backTo pos (starEach (e :: es) X.env)) (backToKw pos (keywordEach [] X.env)))) : SE X a Φ (.Call (.Attribute o m apos) (e :: es) [] pos) (eMeth c m q np mo ms) :=
  PE.imp (pe_methE ho hc hm F hr hb (fun σ => passAt tk σ) ha hst hpl ht) fun σ H Q h => TR.one h fun w H s u x rx k => by
    obtain ⟨⟨_, e1⟩, k⟩ := Sat.chk k
    obtain ⟨p, dx, gs, rfl, h2, h3⟩ := isC_spec k.1 rx e1
    refine ⟨p, dx, gs, rfl, h2, h3, Sat.bndT k fun w1 H1 s1 us vs st rus k1 => ?_⟩
    by_cases hl : us.length + 1 = np
    · rw [if_pos hl] at k1
      have c := call_spec (us := u :: us) (vs := .ref p :: vs) (.cons (rx.mono st) rus) k1
      rw [List.length_cons, ← rus.length, hl, ← hK] at c
      exact c
    · rw [if_neg hl] at k1; exact k1.2.elim
theorem se_meth0 {pl : Sem Bool} (hK : X.K = a.K) (ho : SE X a Φ o mo) (hc : Cls X.K (a.cls c)) (hm : Meth X.K (a.cls c) m f) (F : FnOk X.prog X.w X.K X.mg X.base (L2.CX X.prog X.w) k f fd ps (spE X.K a.cls Φ q np)) (hr : Room k X.A) (hb : Binds X.K fd ps [])
    (tk : Takes X a.E)
    (ht : eval (.Call (.Attribute o m apos) [] [] pos) X.env = (do
      let ov ← eval o X.env
      standAt apos.atName
      let (f, first) ← holding [ov] (getMethod ov m pl)
      callWith pos f first (backTo pos (starEach [] X.env)) (backToKw pos (keywordEach [] X.env)))) : SE X a Φ (.Call (.Attribute o m apos) [] [] pos) (eMeth c m q np mo aNil) :=
  PE.imp (pe_methE0 ho hc hm F hr hb (fun σ => passAt tk σ) ht) fun σ H Q h => TR.one h fun w H s u x rx k => by
    obtain ⟨⟨_, e1⟩, k⟩ := Sat.chk k
    obtain ⟨p, dx, gs, rfl, h2, h3⟩ := isC_spec k.1 rx e1
    refine ⟨p, dx, gs, rfl, h2, h3, ?_⟩
    show spE X.K a.cls Φ q np [.ref p] H Q _
    have k1 : Sat a Φ w σ H s (if ([] : List U).length + 1 = np then callM q (u :: []) else fail) (relU a) Q := k
    by_cases hl : ([] : List U).length + 1 = np
    · rw [if_pos hl] at k1
      have c := call_spec (us := [u]) (vs := [.ref p]) (.cons rx .nil) k1
      have hl' : [V.ref p].length = np := hl
      rw [hl', ← hK] at c
      exact c
    · rw [if_neg hl] at k1; exact k1.2.elim
end
end EL
set_option Elab.async false
set_option linter.all false
set_option maxRecDepth 100000
/-! ED2: an instance is made. -/
namespace EL
open PySem PySem.Spec PyProof.Rows L2

section
variable {a : Act} {w : W} {env : List SV} {hp : List EO} {σ : L2.St} {H : Hp} {p : Addr} {o : HO} {eo : EO}
/-- a new cell -/
theorem Rel.newCell (R : Rel a w env hp σ H) (h : H p = none) (oc : Stp w H ⟨w.F, w.ρ ++ [p]⟩ (upd H p o) → OC a.K a.cls ⟨w.F, w.ρ ++ [p]⟩ (upd H p o) eo p) : Rel a ⟨w.F, w.ρ ++ [p]⟩ env (hp ++ [eo]) σ (upd H p o) ∧ Stp w H ⟨w.F, w.ρ ++ [p]⟩ (upd H p o) := by
  have st : Stp w H ⟨w.F, w.ρ ++ [p]⟩ (upd H p o) := ⟨fun _ h => h, fun i q h => app_old h, fun x hx => upd_ne fun z => R.frz x hx (by rw [z]; exact h)⟩
  have ne : ∀ {x : Addr}, H x ≠ none → x ≠ p := fun hx z => hx (by rw [z]; exact h)
  have np : p ∉ w.ρ := fun z => R.cell_there z h
  refine ⟨⟨R.len, fun i s e => (R.slot i s e).mono st fun ho q hq => ?_, fun i s q e ho hq => ?_, R.apart, by simp [R.clen], ?_, fun i u q hi hq => ?_, fun i u q hi hq hz => ?_, fun q hq => ?_, fun i q e => app_old (R.pre i q e), fun x u hx hm ht => ?_, fun x hx => ?_, R.F0, R.Fpre, R.tab_upd h, R.tabF⟩, st⟩
  · obtain ⟨q', h1, h2⟩ := R.slot_there e ho
    rw [h1] at hq; cases hq
    exact upd_ne (ne h2)
  · obtain ⟨q', h1, h2⟩ := R.slot_there e ho
    rw [h1] at hq; cases hq
    obtain ⟨o1, o2, o3⟩ := R.own i s _ e ho h1
    refine ⟨o1, fun z => ?_, o3⟩
    rcases List.mem_append.mp z with z | z
    · exact o2 z
    · simp at z; exact ne h2 z
  · rw [List.nodup_append]
    refine ⟨R.cnd, by simp, fun x hx y hy => ?_⟩
    simp at hy; subst hy
    exact fun z => np (z ▸ hx)
  · rcases app_some hi with hi | ⟨rfl, rfl⟩
    · have hlt := (List.getElem?_eq_some_iff.mp hi).1
      have hq' : w.ρ[i]? = some q := by
        rw [List.getElem?_append_left (by rw [R.clen]; exact hlt)] at hq; exact hq
      exact (R.cell i u q hi hq').mono st (upd_ne (ne (R.cell_there (List.mem_of_getElem? hq'))))
    · have : (w.ρ ++ [p])[w.ρ.length]? = some p := app_last
      rw [R.clen, hq] at this; cases this
      exact oc st
  · rcases app_some hi with hi | ⟨rfl, rfl⟩
    · have hlt := (List.getElem?_eq_some_iff.mp hi).1
      have hq' : w.ρ[i]? = some q := by
        rw [List.getElem?_append_left (by rw [R.clen]; exact hlt)] at hq; exact hq
      exact R.cellF i u q hi hq' hz
    · have : (w.ρ ++ [p])[w.ρ.length]? = some p := app_last
      rw [R.clen, hq] at this; cases this
      exact fun z => R.frz p z h
  · rcases List.mem_append.mp hq with z | z
    · exact R.cell0 q z
    · simp at z; subst z; exact .inr (R.fresh0 h)
  · rw [upd_ne (ne (by rw [R.frame x u hx hm ht]; exact fun z => nomatch z))]
    exact R.frame x u hx hm ht
  · rw [upd_ne (ne (R.frz x hx))]; exact R.frz x hx
/-- a new instance -/
theorem Rel.newIns (R : Rel a w env hp σ H) {x dx : Addr} {c : Str} (hx : H x = none) (hd : H dx = none) (ne : dx ≠ x) (hc : Cls a.K (a.cls c)) : ∃ w' : W, w'.ρ = w.ρ ++ [x] ∧ Rel a w' env (hp ++ [.ins c []]) σ (upd (upd H dx (.own x)) x (.ins (a.cls c) dx [])) ∧ Stp w H w' (upd (upd H dx (.own x)) x (.ins (a.cls c) dx [])) := by
  have R1 := R.new (o := .own x) hd
  have st1 : Stp w H (w.more dx) (upd H dx (.own x)) := Stp.new R hd
  obtain ⟨R2, st2⟩ := R1.newCell (p := x) (o := .ins (a.cls c) dx []) (eo := .ins c []) (by rw [upd_ne (Ne.symm ne)]; exact hx) fun st => .ins upd_same .nil ⟨hc, fun f u e => by cases e⟩
  exact ⟨_, rfl, R2, st1.trans st2⟩
end

/-! ### freezing the last cell -/
mutual
/-- no cell from n on is named -/
def refB (n : Nat) : U → Bool
  | .tup us => refsB n us
  | .lst us => refsB n us
  | .dic _ kvs => refkB n kvs
  | .obj _ fs => reffB n fs
  | .ref i => decide (i < n)
  | .non => true
  | .bl _ => true
  | .int _ => true
  | .str _ => true
  | .scr _ => true
def refsB (n : Nat) : List U → Bool
  | [] => true
  | u :: us => refB n u && refsB n us
def refkB (n : Nat) : List (U × U) → Bool
  | [] => true
  | (k, u) :: us => refB n k && refB n u && refkB n us
def reffB (n : Nat) : List (Str × U) → Bool
  | [] => true
  | (_, u) :: us => refB n u && reffB n us
end
section
variable {K : PySem.W.Frag} {cls : Cl} {w w' : W} {H : Hp} {n : Nat} (hF : ∀ x, w.F x → w'.F x) (hρ : ∀ i p, i < n → w.ρ[i]? = some p → w'.ρ[i]? = some p)
include hF hρ
mutual
theorem RU.less : ∀ {u : U} {v : V}, RU K cls w H u v → refB n u = true → RU K cls w' H u v
  | _, _, .non, _ => .non
  | _, _, .bl b, _ => .bl b
  | _, _, .int i, _ => .int i
  | _, _, .str x, _ => .str x
  | _, _, .tup f h r, e => .tup (hF _ f) h (RUs.less r (by simpa only [refB] using e))
  | _, _, .lst f h r, e => .lst (hF _ f) h (RUs.less r (by simpa only [refB] using e))
  | _, _, .dicK f h r, e => .dicK (hF _ f) h (RKs.less r (by simpa only [refB] using e))
  | _, _, .dicT f h r, e => .dicT (hF _ f) h (RTs.less r (by simpa only [refB] using e))
  | _, _, .obj f h r o, e => .obj (hF _ f) h (RFs.less r (by simpa only [refB] using e)) o
  | _, _, .ref h, e => .ref (hρ _ _ (by simpa [refB] using e) h)
  | _, _, .scr f h, _ => .scr (hF _ f) h
  | _, _, .scrK h, _ => .scrK h
theorem RUs.less : ∀ {us : List U} {vs : List V}, RUs K cls w H us vs → refsB n us = true → RUs K cls w' H us vs
  | _, _, .nil, _ => .nil
  | _, _, .cons r t, e => by
    simp only [refsB, Bool.and_eq_true] at e
    exact .cons (RU.less r e.1) (RUs.less t e.2)
theorem RKs.less : ∀ {us : List (U × U)} {vs : List (L2.Key × V)}, RKs K cls w H us vs → refkB n us = true → RKs K cls w' H us vs
  | _, _, .nil, _ => .nil
  | _, _, .cons r t, e => by
    simp only [refkB, Bool.and_eq_true] at e
    exact .cons (RU.less r e.1.2) (RKs.less t e.2)
theorem RTs.less : ∀ {us : List (U × U)} {vs : List (List L2.Key × V)}, RTs K cls w H us vs → refkB n us = true → RTs K cls w' H us vs
  | _, _, .nil, _ => .nil
  | _, _, .cons r t, e => by
    simp only [refkB, Bool.and_eq_true] at e
    exact .cons (RU.less r e.1.2) (RTs.less t e.2)
theorem RFs.less : ∀ {us : List (Str × U)} {vs : List (Str × V)}, RFs K cls w H us vs → reffB n us = true → RFs K cls w' H us vs
  | _, _, .nil, _ => .nil
  | _, _, .cons r t, e => by
    simp only [reffB, Bool.and_eq_true] at e
    exact .cons (RU.less r e.1) (RFs.less t e.2)
end
end
section
variable {K : PySem.W.Frag} {cls : Cl} {w : W} {H : Hp}
theorem ref_lt {i : Nat} {p : Addr} (h : w.ρ[i]? = some p) : decide (i < w.ρ.length) = true := decide_eq_true (List.getElem?_eq_some_iff.mp h).1
mutual
theorem RU.refB : ∀ {u : U} {v : V}, RU K cls w H u v → refB w.ρ.length u = true
  | _, _, .non => rfl
  | _, _, .bl b => rfl
  | _, _, .int i => rfl
  | _, _, .str x => rfl
  | _, _, .tup f h r => by simp only [EL.refB]; exact RUs.refB r
  | _, _, .lst f h r => by simp only [EL.refB]; exact RUs.refB r
  | _, _, .dicK f h r => by simp only [EL.refB]; exact RKs.refB r
  | _, _, .dicT f h r => by simp only [EL.refB]; exact RTs.refB r
  | _, _, .obj f h r o => by simp only [EL.refB]; exact RFs.refB r
  | _, _, .ref h => by simp only [EL.refB]; exact ref_lt h
  | _, _, .scr f h => rfl
  | _, _, .scrK h => rfl
theorem RUs.refB : ∀ {us : List U} {vs : List V}, RUs K cls w H us vs → refsB w.ρ.length us = true
  | _, _, .nil => rfl
  | _, _, .cons r t => by simp only [refsB, Bool.and_eq_true]; exact ⟨RU.refB r, RUs.refB t⟩
theorem RKs.refB : ∀ {us : List (U × U)} {vs : List (L2.Key × V)}, RKs K cls w H us vs → refkB w.ρ.length us = true
  | _, _, .nil => rfl
  | _, _, @RKs.cons _ _ _ _ k _ _ _ _ r t => by simp only [refkB, Bool.and_eq_true]; exact ⟨⟨by cases k <;> rfl, RU.refB r⟩, RKs.refB t⟩
theorem RTs.refB : ∀ {us : List (U × U)} {vs : List (List L2.Key × V)}, RTs K cls w H us vs → refkB w.ρ.length us = true
  | _, _, .nil => rfl
  | _, _, @RTs.cons _ _ _ _ k _ _ _ _ r t => by
    simp only [refkB, Bool.and_eq_true, EL.refB]
    refine ⟨⟨?_, RU.refB r⟩, RTs.refB t⟩
    have key : ∀ (n : Nat) (k : List L2.Key), refsB n (k.map kU) = true := fun n k => by
      induction k with
      | nil => rfl
      | cons x xs ih => simp only [List.map_cons, refsB, Bool.and_eq_true]; exact ⟨by cases x <;> rfl, ih⟩
    exact key _ k
theorem RFs.refB : ∀ {us : List (Str × U)} {vs : List (Str × V)}, RFs K cls w H us vs → reffB w.ρ.length us = true
  | _, _, .nil => rfl
  | _, _, .cons r t => by simp only [reffB, Bool.and_eq_true]; exact ⟨RU.refB r, RFs.refB t⟩
end
def refOB (n : Nat) : EO → Bool
  | .lst us => refsB n us
  | .dic _ kvs => refkB n kvs
  | .ins _ fs => reffB n fs
  | .fdic _ kvs => refkB n kvs
theorem OC.refB {o : EO} {p : Addr} (h : OC K cls w H o p) : refOB w.ρ.length o = true := by
  cases h with
  | lst h r => exact r.refB
  | dicK h r => exact r.refB
  | dicT h r => exact r.refB
  | ins h r o => exact r.refB
  | fK f h r => exact r.refB
  | fT f h r => exact r.refB
theorem OC.less {w' : W} {n : Nat} (hF : ∀ x, w.F x → w'.F x) (hρ : ∀ i p, i < n → w.ρ[i]? = some p → w'.ρ[i]? = some p) {o : EO} {p : Addr} (h : OC K cls w H o p) (e : refOB n o = true) : OC K cls w' H o p := by
  cases h with
  | lst h r => exact .lst h (r.less hF hρ e)
  | dicK h r => exact .dicK h (r.less hF hρ e)
  | dicT h r => exact .dicT h (r.less hF hρ e)
  | ins h r o => exact .ins h (r.less hF hρ e) o
  | fK f h r => exact .fK (hF _ f) h (r.less hF hρ e)
  | fT f h r => exact .fT (hF _ f) h (r.less hF hρ e)
end
section
variable {a : Act} {w w1 w2 : W} {env : List SV} {hp : List EO} {σ : L2.St} {H H1 H2 : Hp} {x dx : Addr} {E : XK} {c : Str} {fs : List (Str × U)}
/-- the same cells, or frozen since -/
structure Frd (hp hp2 : List EO) : Prop where
  len : hp2.length = hp.length
  at_ : ∀ (i : Nat) (o : EO), hp2[i]? = some o → ∃ o0, hp[i]? = some o0 ∧ ∀ n, refOB n o = refOB n o0
theorem Rel.frzLast {hp2 : List EO} (fd : Frd hp hp2) (R : Rel a w env hp σ H) (hx : H x = none) (hd : H dx = none) (h1 : ∀ y, y ≠ x → y ≠ dx → H1 y = H y) (hρ : w1.ρ = w.ρ ++ [x]) (R1 : ∃ eo, Rel a w1 env (hp ++ [eo]) σ H1) (st1 : Stp w H w1 H1)
    (R' : Rel (entry a.K a.cls w1 H1 E) w2 [] (hp2 ++ [.ins c fs]) [] H2) (st2 : Stp w1 H1 w2 H2) (hr : reffB hp.length fs = true) : ∃ w3 : W, Rel a w3 env hp2 σ H2 ∧ Stp w H w3 H2 ∧ RU a.K a.cls w3 H2 (.obj c fs) (.ref x) := by
  obtain ⟨eo1, R1⟩ := R1
  have st := st1.trans st2
  have hn : w.ρ.length = hp.length := R.clen
  have x1 : w1.ρ[hp.length]? = some x := by rw [hρ, ← hn]; exact app_last
  have x2 : w2.ρ[hp.length]? = some x := st2.ρ _ _ x1
  have l2 : w2.ρ.length = hp.length + 1 := by rw [R'.clen]; simp [fd.len]
  have nin : ∀ {y : Addr}, H y ≠ none → y ≠ x ∧ y ≠ dx := fun hy => ⟨fun z => hy (by rw [z]; exact hx), fun z => hy (by rw [z]; exact hd)⟩
  have xin : ∀ {y : Addr}, y ∈ w.ρ → y ≠ x := fun hy => (nin (R.cell_there hy)).1
  have keep : ∀ y, H y ≠ none → y ∉ w.ρ → y ∉ a.cls.T → H2 y = H y := fun y hy hm ht => by
    have ny := nin hy
    have e1 := h1 y ny.1 ny.2
    cases e : H y with
    | none => exact absurd e hy
    | some o =>
      refine R'.frame y o (by rw [show (entry a.K a.cls w1 H1 E).H0 = H1 from rfl, e1, e]) (fun z => ?_) ht
      have z : y ∈ w1.ρ := z
      rw [hρ] at z
      rcases List.mem_append.mp z with z | z
      · exact hm z
      · simp at z; exact ny.1 z
  have oc := R'.cell hp.length (.ins c fs) x (by rw [List.getElem?_append_right (by rw [fd.len]; exact Nat.le_refl _)]; simp [fd.len]) x2
  have hF : ∀ y, w2.F y → (W.more ⟨w2.F, w.ρ⟩ x).F y := fun y h => .inl h
  have hρ3 : ∀ i p, i < hp.length → w2.ρ[i]? = some p → w.ρ[i]? = some p := fun i p hi hp2 => by
    have hi' : i < w.ρ.length := by omega
    have e1 : w.ρ[i]? = some w.ρ[i] := List.getElem?_eq_getElem hi'
    have e2 := st.ρ _ _ e1
    rw [hp2] at e2
    rw [e1, e2]
  have s3 : Stp w H (W.more ⟨w2.F, w.ρ⟩ x) H2 := ⟨fun y h => .inl (st.F y h), fun i p h => h, st.H⟩
  refine ⟨W.more ⟨w2.F, w.ρ⟩ x, ⟨R.len, fun i s e => (R.slot i s e).mono s3 fun ho p hq => ?_, fun i s p e ho hq => ?_, R.apart, R.clen.trans fd.len.symm, R.cnd, fun i o q hi hq => ?_, fun i o q hi hq hz => ?_, R.cell0, R.pre, fun y o hy hm ht => ?_, fun y hy => ?_, fun y hy => ?_, fun y hy => .inl (st.F y (R.Fpre y hy)), R'.tab, fun y hy z => ?_⟩, s3, ?_⟩
  · obtain ⟨p', g1, g2⟩ := R.slot_there e ho
    rw [g1] at hq; cases hq
    exact keep p g2 (R.own i s p e ho g1).2.1 fun z => R.slot_ntab e ho g1 z rfl
  · obtain ⟨p', g1, g2⟩ := R.slot_there e ho
    rw [g1] at hq; cases hq
    obtain ⟨o1, o2, o3⟩ := R.own i s p e ho g1
    refine ⟨fun z => ?_, o2, o3⟩
    rcases z with z | z
    · rcases R'.F0 p z with z | z
      · exact (R1.own i s p e ho g1).1 z
      · rcases z with z | z
        · have z : Old0 H1 p := z
          have q1 : H1 p = H p := h1 p (nin g2).1 (nin g2).2
          unfold Old0 at z
          rw [q1] at z
          rcases z with z | ⟨xs, z⟩
          · exact g2 z
          · exact R.slot_ntup e ho g1 z
        · have z : p ∈ w1.ρ := z
          rw [hρ] at z
          rcases List.mem_append.mp z with z | z
          · exact o2 z
          · simp at z; exact (nin g2).1 z
    · exact (nin g2).1 z
  · have o2 := R'.cell i o q (by rw [List.getElem?_append_left (List.getElem?_eq_some_iff.mp hi).1]; exact hi) (st.ρ _ _ hq)
    obtain ⟨o0, hi0, e0⟩ := fd.at_ i o hi
    have q2 := (R.cell i o0 q hi0 hq).refB
    rw [hn, ← e0] at q2
    exact o2.less (w' := W.more ⟨w2.F, w.ρ⟩ x) hF hρ3 q2
  · intro z
    rcases z with z | z
    · exact R'.cellF i o q (by rw [List.getElem?_append_left (List.getElem?_eq_some_iff.mp hi).1]; exact hi) (st.ρ _ _ hq) hz z
    · exact xin (List.mem_of_getElem? hq) z
  · have q := R.frame y o hy hm ht
    rw [keep y (by rw [q]; exact fun z => nomatch z) (fun z => by
      rcases R.cell0 y z with z | z
      · exact hm z
      · rw [hy] at z; cases z) ht]
    exact q
  · rcases hy with hy | hy
    · exact R'.frz y hy
    · rw [hy]; exact oc.there
  · rcases hy with hy | hy
    · rcases R'.F0 y hy with z | z
      · exact R1.F0 y z
      · rcases z with z | z
        · exact .inr (.inl (R1.old0 z))
        · rcases R1.cell0 y z with z | z
          · exact .inr (.inr z)
          · exact .inr (.inl (.inl z))
    · rw [hy]; exact .inr (.inl (.inl (R.fresh0 hx)))
  · rcases z with z | z
    · exact R'.tabF y hy z
    · exact R.tab_ne hx hy z
  · cases oc with
    | ins g1 g2 g3 => exact .obj (.inr rfl) g1 (g2.less (w' := W.more ⟨w2.F, w.ρ⟩ x) hF hρ3 hr) g3
end
/-! ### equality of E's values -/
mutual
def eqbU : U → U → Bool
  | .non, .non => true
  | .bl a, .bl b => a == b
  | .int a, .int b => decide (a = b)
  | .str a, .str b => decide (a = b)
  | .tup a, .tup b => eqbUs a b
  | .lst a, .lst b => eqbUs a b
  | .dic t a, .dic t' b => (t == t') && eqbKs a b
  | .obj c a, .obj c' b => decide (c = c') && eqbFs a b
  | .ref i, .ref j => decide (i = j)
  | .scr a, .scr b => decide (a = b)
  | _, _ => false
def eqbUs : List U → List U → Bool
  | [], [] => true
  | x :: xs, y :: ys => eqbU x y && eqbUs xs ys
  | _, _ => false
def eqbKs : List (U × U) → List (U × U) → Bool
  | [], [] => true
  | (k, x) :: xs, (k', y) :: ys => eqbU k k' && eqbU x y && eqbKs xs ys
  | _, _ => false
def eqbFs : List (Str × U) → List (Str × U) → Bool
  | [], [] => true
  | (k, x) :: xs, (k', y) :: ys => decide (k = k') && eqbU x y && eqbFs xs ys
  | _, _ => false
end
mutual
theorem eqbU_ok : ∀ {a b : U}, eqbU a b = true → a = b
  | .non, .non, _ => rfl
  | .bl a, .bl b, h => by rw [eqbU] at h; rw [eq_of_beq h]
  | .int a, .int b, h => by rw [eqbU] at h; rw [of_decide_eq_true h]
  | .str a, .str b, h => by rw [eqbU] at h; rw [of_decide_eq_true h]
  | .tup a, .tup b, h => by rw [eqbU] at h; rw [eqbUs_ok h]
  | .lst a, .lst b, h => by rw [eqbU] at h; rw [eqbUs_ok h]
  | .dic t a, .dic t' b, h => by rw [eqbU, Bool.and_eq_true] at h; rw [eq_of_beq h.1, eqbKs_ok h.2]
  | .obj c a, .obj c' b, h => by rw [eqbU, Bool.and_eq_true] at h; rw [of_decide_eq_true h.1, eqbFs_ok h.2]
  | .ref i, .ref j, h => by rw [eqbU] at h; rw [of_decide_eq_true h]
  | .scr a, .scr b, h => by rw [eqbU] at h; rw [of_decide_eq_true h]
  | .non, .bl _, h => by simp [eqbU] at h
  | .non, .int _, h => by simp [eqbU] at h
  | .non, .str _, h => by simp [eqbU] at h
  | .non, .tup _, h => by simp [eqbU] at h
  | .non, .lst _, h => by simp [eqbU] at h
  | .non, .dic _ _, h => by simp [eqbU] at h
  | .non, .obj _ _, h => by simp [eqbU] at h
  | .non, .ref _, h => by simp [eqbU] at h
  | .non, .scr _, h => by simp [eqbU] at h
  | .bl _, .non, h | .bl _, .int _, h | .bl _, .str _, h | .bl _, .tup _, h | .bl _, .lst _, h | .bl _, .dic _ _, h | .bl _, .obj _ _, h | .bl _, .ref _, h | .bl _, .scr _, h => by simp [eqbU] at h
  | .int _, .non, h | .int _, .bl _, h | .int _, .str _, h | .int _, .tup _, h | .int _, .lst _, h | .int _, .dic _ _, h | .int _, .obj _ _, h | .int _, .ref _, h | .int _, .scr _, h => by simp [eqbU] at h
  | .str _, .non, h | .str _, .bl _, h | .str _, .int _, h | .str _, .tup _, h | .str _, .lst _, h | .str _, .dic _ _, h | .str _, .obj _ _, h | .str _, .ref _, h | .str _, .scr _, h => by simp [eqbU] at h
  | .tup _, .non, h | .tup _, .bl _, h | .tup _, .int _, h | .tup _, .str _, h | .tup _, .lst _, h | .tup _, .dic _ _, h | .tup _, .obj _ _, h | .tup _, .ref _, h | .tup _, .scr _, h => by simp [eqbU] at h
  | .lst _, .non, h | .lst _, .bl _, h | .lst _, .int _, h | .lst _, .str _, h | .lst _, .tup _, h | .lst _, .dic _ _, h | .lst _, .obj _ _, h | .lst _, .ref _, h | .lst _, .scr _, h => by simp [eqbU] at h
  | .dic _ _, .non, h | .dic _ _, .bl _, h | .dic _ _, .int _, h | .dic _ _, .str _, h | .dic _ _, .tup _, h | .dic _ _, .lst _, h | .dic _ _, .obj _ _, h | .dic _ _, .ref _, h | .dic _ _, .scr _, h => by simp [eqbU] at h
  | .obj _ _, .non, h | .obj _ _, .bl _, h | .obj _ _, .int _, h | .obj _ _, .str _, h | .obj _ _, .tup _, h | .obj _ _, .lst _, h | .obj _ _, .dic _ _, h | .obj _ _, .ref _, h | .obj _ _, .scr _, h => by simp [eqbU] at h
  | .ref _, .non, h | .ref _, .bl _, h | .ref _, .int _, h | .ref _, .str _, h | .ref _, .tup _, h | .ref _, .lst _, h | .ref _, .dic _ _, h | .ref _, .obj _ _, h | .ref _, .scr _, h => by simp [eqbU] at h
  | .scr _, .non, h | .scr _, .bl _, h | .scr _, .int _, h | .scr _, .str _, h | .scr _, .tup _, h | .scr _, .lst _, h | .scr _, .dic _ _, h | .scr _, .obj _ _, h | .scr _, .ref _, h => by simp [eqbU] at h
theorem eqbUs_ok : ∀ {a b : List U}, eqbUs a b = true → a = b
  | [], [], _ => rfl
  | x :: xs, y :: ys, h => by rw [eqbUs, Bool.and_eq_true] at h; rw [eqbU_ok h.1, eqbUs_ok h.2]
  | [], _ :: _, h | _ :: _, [], h => by simp [eqbUs] at h
theorem eqbKs_ok : ∀ {a b : List (U × U)}, eqbKs a b = true → a = b
  | [], [], _ => rfl
  | (k, x) :: xs, (k', y) :: ys, h => by rw [eqbKs, Bool.and_eq_true, Bool.and_eq_true] at h; rw [eqbU_ok h.1.1, eqbU_ok h.1.2, eqbKs_ok h.2]
  | [], (_, _) :: _, h | (_, _) :: _, [], h => by simp [eqbKs] at h
theorem eqbFs_ok : ∀ {a b : List (Str × U)}, eqbFs a b = true → a = b
  | [], [], _ => rfl
  | (k, x) :: xs, (k', y) :: ys, h => by rw [eqbFs, Bool.and_eq_true, Bool.and_eq_true] at h; rw [of_decide_eq_true h.1.1, eqbU_ok h.1.2, eqbFs_ok h.2]
  | [], (_, _) :: _, h | (_, _) :: _, [], h => by simp [eqbFs] at h
end
mutual
theorem eqbU_refl : ∀ a : U, eqbU a a = true
  | .non => by simp [eqbU]
  | .bl _ => by simp [eqbU]
  | .int _ => by simp [eqbU]
  | .str _ => by simp [eqbU]
  | .tup a => by simp [eqbU, eqbUs_refl a]
  | .lst a => by simp [eqbU, eqbUs_refl a]
  | .dic t a => by simp [eqbU, eqbKs_refl a]
  | .obj c a => by simp [eqbU, eqbFs_refl a]
  | .ref _ => by simp [eqbU]
  | .scr _ => by simp [eqbU]
theorem eqbUs_refl : ∀ a : List U, eqbUs a a = true
  | [] => by simp [eqbUs]
  | x :: xs => by simp [eqbUs, eqbU_refl x, eqbUs_refl xs]
theorem eqbKs_refl : ∀ a : List (U × U), eqbKs a a = true
  | [] => by simp [eqbKs]
  | (k, x) :: xs => by simp [eqbKs, eqbU_refl k, eqbU_refl x, eqbKs_refl xs]
theorem eqbFs_refl : ∀ a : List (Str × U), eqbFs a a = true
  | [] => by simp [eqbFs]
  | (k, x) :: xs => by simp [eqbFs, eqbU_refl x, eqbFs_refl xs]
end
def eqbO : EO → EO → Bool
  | .lst a, .lst b => eqbUs a b
  | .dic t a, .dic t' b => (t == t') && eqbKs a b
  | .ins c a, .ins c' b => decide (c = c') && eqbFs a b
  | .fdic t a, .fdic t' b => (t == t') && eqbKs a b
  | _, _ => false
theorem eqbO_ok {a b : EO} (h : eqbO a b = true) : a = b := by
  cases a <;> cases b <;> simp only [eqbO, Bool.and_eq_true, decide_eq_true_eq, beq_iff_eq, Bool.false_eq_true] at h
  · rw [eqbUs_ok h]
  · rw [h.1, eqbKs_ok h.2]
  · rw [h.1, eqbFs_ok h.2]
  · rw [h.1, eqbKs_ok h.2]
theorem eqbO_refl (a : EO) : eqbO a a = true := by cases a <;> simp [eqbO, eqbUs_refl, eqbKs_refl, eqbFs_refl]
def eqbOs : List EO → List EO → Bool
  | [], [] => true
  | x :: xs, y :: ys => eqbO x y && eqbOs xs ys
  | _, _ => false
theorem eqbOs_ok : ∀ {a b : List EO}, eqbOs a b = true → a = b
  | [], [], _ => rfl
  | x :: xs, y :: ys, h => by rw [eqbOs, Bool.and_eq_true] at h; rw [eqbO_ok h.1, eqbOs_ok h.2]
  | [], _ :: _, h | _ :: _, [], h => by simp [eqbOs] at h
theorem eqbOs_refl : ∀ a : List EO, eqbOs a a = true
  | [] => rfl
  | x :: xs => by simp [eqbOs, eqbO_refl, eqbOs_refl xs]

/-! ### C(..) -/
/-- a cell, or what it is when frozen -/
def sameO : EO → EO → Bool
  | .dic t a, .fdic t' b => (t == t') && eqbKs a b
  | x, y => eqbO x y
theorem sameO_ref {x y : EO} (h : sameO x y = true) (n : Nat) : refOB n y = refOB n x := by
  unfold sameO at h
  split at h
  · rw [Bool.and_eq_true] at h
    rw [eqbKs_ok h.2]; rfl
  · rw [eqbO_ok h]
theorem sameO_refl (x : EO) : sameO x x = true := by cases x <;> (unfold sameO; exact eqbO_refl _)
/-- the new instance, the rest being as it was (or frozen) -/
def finI : List EO → List EO → Option ((Str × List (Str × U)) × List EO)
  | [], [.ins c fs] => some ((c, fs), [])
  | x :: xs, y :: ys => if sameO x y = true then (finI xs ys).map fun z => (z.1, y :: z.2) else none
  | _, _ => none
theorem finI_some : ∀ {hp hp' hp2 : List EO} {c : Str} {fs : List (Str × U)}, finI hp hp' = some ((c, fs), hp2) → hp' = hp2 ++ [.ins c fs] ∧ Frd hp hp2
  | [], [.ins c fs], _, _, _, h => by unfold finI at h; cases h; exact ⟨rfl, rfl, fun i o e => by simp at e⟩
  | x :: xs, y :: ys, _, c, fs, h => by
    unfold finI at h
    split at h
    · rename_i e
      cases q : finI xs ys with
      | none => rw [q] at h; cases h
      | some z =>
        obtain ⟨⟨c', fs'⟩, hp3⟩ := z
        rw [q] at h
        cases h
        obtain ⟨h1, h2⟩ := finI_some q
        refine ⟨by rw [h1]; rfl, by simp [h2.len], fun i o hi => ?_⟩
        cases i with
        | zero => simp at hi; subst hi; exact ⟨x, rfl, fun n => sameO_ref e n⟩
        | succ i => simp only [List.getElem?_cons_succ] at hi ⊢; exact h2.at_ i o hi
    · cases h
  | [], [], _, _, _, h => by simp [finI] at h
  | [], [.lst _], _, _, _, h => by simp [finI] at h
  | [], [.dic _ _], _, _, _, h => by simp [finI] at h
  | [], [.fdic _ _], _, _, _, h => by simp [finI] at h
  | [], _ :: _ :: _, _, _, _, h => by simp [finI] at h
  | _ :: _, [], _, _, _, h => by simp [finI] at h
theorem finI_app : ∀ (hp : List EO) (c : Str) (fs : List (Str × U)), finI hp (hp ++ [.ins c fs]) = some ((c, fs), hp)
  | [], _, _ => rfl
  | x :: xs, c, fs => by
    show finI (x :: xs) (x :: (xs ++ [.ins c fs])) = _
    rw [finI, if_pos (sameO_refl x), finI_app xs c fs]; rfl
def makeM (c q : Str) (fr : Bool) (us : List U) : M U := fun Φ s => match Φ q (.ref s.hp.length :: us) (s.hp ++ [.ins c []]) with
  | none => none
  | some (.ok .non hp') => if fr = true then (match finI s.hp hp' with
      | some ((c', fs), hp2) => if reffB s.hp.length fs = true then some (.ok (.obj c' fs) ⟨s.env, hp2⟩) else none
      | none => none)
    else some (.ok (.ref s.hp.length) ⟨s.env, hp'⟩)
  | some (.ok _ _) => none
  | some (.ex k f v hp') => some (.ex k f v ⟨s.env, hp'⟩)
def eMake (c q : Str) (np : Nat) (fr : Bool) (ms : M (List U)) : M U := bnd ms fun us => if us.length + 1 = np then makeM c q fr us else fail
def tMakeE (C : Addr) (sp : Sp) (E : L2.St → XK) (t : TA) : TE := fun σ H Q => t σ H fun vs H1 => ∀ x dx, H1 x = none → H1 dx = none → dx ≠ x →
  sp (.ref x :: vs) (upd (upd H1 dx (.own x)) x (.ins C dx [])) (fun v H2 => v = .non ∧ Q (.ref x) H2) (E σ)
section
variable {X : Cx} {CX : CXT} {k : Nat} {f C : Addr} {fd : FuncData} {ps : List Str} {sp : Sp} {E : L2.St → XK} {x : Str} {p pos : Pos} {e : Expr} {es : List Expr} {t : TA}
theorem make_run {pins : List (Addr × Obj)} {σ : L2.St} {H : Hp} {s : Shared} {Q : VK} {us : List Value} {vs : List V} (M : Mk X.K C f) (F : FnOk X.prog X.w X.K X.mg X.base CX k f fd ps sp) (hr : Room (k + 1) X.A) (hb : Binds X.K fd ps [])
    (hx : PassesAt CX X σ (E σ)) (I : Inv X pins σ H s) (r : Vals vs us)
    (h : ∀ x dx, H x = none → H dx = none → dx ≠ x → sp (.ref x :: vs) (upd (upd H dx (.own x)) x (.ins C dx [])) (fun v H2 => v = .non ∧ Q (.ref x) H2) (E σ)) :
    wpAny (model X.prog X.w) X.A (call (.ref C) us) (EP X pins σ Q) X.xe s := by
  have nx : H (s.heap.objs.size + 1) = none := I.hok.fresh (Nat.le_succ _)
  have nd : H s.heap.objs.size = none := I.hok.fresh (Nat.le_refl _)
  have want := h _ _ nx nd (Nat.ne_of_lt (Nat.lt_succ_self _))
  have J := Inv.made (C := C) I
  have rs : Vals (V.ref (s.heap.objs.size + 1) :: vs) (Value.ref (s.heap.objs.size + 1) :: us) := .cons rfl r
  have len : (Value.ref (s.heap.objs.size + 1) :: us).length = ps.length := by rw [← rs.length]; exact F.len _ _ _ _ want
  have bd := hb _ (Value.ref (s.heap.objs.size + 1) :: us) J.kIn (by rw [List.append_nil]; exact len)
  rw [List.append_nil] at bd
  refine wpAny_call (make_map (f := f) I.kIn M.makes M.init (beq_iff_eq.mp M.fn) (codeAny_mono (F.run _ X.stack _ _ ⟨Value.ref (s.heap.objs.size + 1) :: us, []⟩ _ _ _ (E σ) (hr.make C us []) (J.env0.make C us []) bd rs want) fun z s2 hz => ?_))
  cases z with
  | error e => exact hx pins _ _ e s2 J hz
  | ok fl =>
    cases fl with
    | next => exact False.elim hz
    | brk => exact False.elim hz
    | cont => exact False.elim hz
    | ret u =>
      obtain ⟨v, H', I3, rv, ev, q3⟩ := J.after hz
      subst ev
      exact ⟨rv, ⟨V.ref (s.heap.objs.size + 1), H', I3, rfl, q3⟩⟩
theorem pe_makeE (M : Mk X.K C f) (F : FnOk X.prog X.w X.K X.mg X.base CX k f fd ps sp) (hr : Room (k + 1) X.A) (hg : Gl X x) (hm : X.mg x = some (.ref C)) (hb : Binds X.K fd ps []) (hx : ∀ σ, PassesAt CX X σ (E σ))
    (ha : PA X (e :: es) t) (hdb : (x == ("__debug__" : Str)) = false) (he : starEach (e :: es) X.env = (false, eval e X.env) :: starEach es X.env) (hpl : (backTo pos (starEach es X.env)).any (·.1) = false) :
    PE X (.Call (.Name x p) (e :: es) [] pos) (tMakeE C sp E t) :=
  ⟨fun pins s σ H Q I h => wpAny_Call_Name_kw (ld_glob I hg hm (PySem.W.callWith_K (h₀ := X.base) I.ok.mod.kin M.kp (thn (ha.run pos pins s σ H _ I h) fun us s1 ⟨vs, H1, I1, r, q⟩ => ⟨I1.kIn, make_run M F hr hb (hx σ) I1 r q⟩) he hpl) hdb)⟩
end
section
variable {a : Act} {X : Cx} {Φ : Phi} {e : Expr} {es : List Expr} {ms : M (List U)} {p pos : Pos} {c q : Str} {np k : Nat} {fr : Bool} {f : Addr} {fd : FuncData} {ps : List Str}
theorem make_spec {w : W} {s : S} {σ : L2.St} {H : Hp} {us : List U} {vs : List V} {Q : VK} {x dx : Addr} (hc : Cls a.K (a.cls c)) (h : Sat a Φ w σ H s (makeM c q fr us) (relU a) Q) (r : RUs a.K a.cls w H us vs) (hx : H x = none) (hd : H dx = none) (ne : dx ≠ x) :
    spE a.K a.cls Φ q (vs.length + 1) (.ref x :: vs) (upd (upd H dx (.own x)) x (.ins (a.cls c) dx [])) (fun v H2 => v = .non ∧ Q (.ref x) H2) (fun c d H' => a.E c d σ H') := by
  obtain ⟨R, h⟩ := h
  obtain ⟨w1, hρ, R1, st1⟩ := R.newIns hx hd ne hc
  have x1 : w1.ρ[s.hp.length]? = some x := by rw [hρ, ← R.clen]; exact app_last
  refine ⟨rfl, w1, s.hp ++ [.ins c []], .ref s.hp.length :: us, .cons (.ref x1) (r.mono st1), R1.enter, ?_⟩
  have h1 : ∀ y, y ≠ x → y ≠ dx → (upd (upd H dx (.own x)) x (.ins (a.cls c) dx [])) y = H y := fun y g1 g2 => by rw [upd_ne g1, upd_ne g2]
  unfold makeM at h
  unfold callM
  simp only
  cases e : Φ q (.ref s.hp.length :: us) (s.hp ++ [.ins c []]) with
  | none => rw [e] at h; exact h
  | some z =>
    rw [e] at h
    cases z with
    | ex k g v hp' => exact fun w' H' d y σ' st R' ry hdd => h w' H' d y σ (st1.trans st) (R1.back R'.drop st) ry hdd
    | ok u hp' =>
      cases u <;> first | (exact h.elim) | skip
      cases fr with
      | true =>
        simp only [if_true] at h
        cases q2 : finI s.hp hp' with
        | none => rw [q2] at h; exact h.elim
        | some z =>
          obtain ⟨⟨c', fs⟩, hp2⟩ := z
          rw [q2] at h
          simp only at h
          obtain ⟨e2, fd⟩ := finI_some q2
          subst e2
          by_cases hr : reffB s.hp.length fs = true
          · rw [if_pos hr] at h
            intro w' H' y st R' ry
            cases ry
            obtain ⟨w3, R3, st3, ru⟩ := R.frzLast fd hx hd h1 hρ ⟨_, R1⟩ st1 R' st hr
            exact ⟨rfl, h w3 H' (.ref x) st3 R3 ru⟩
          · rw [if_neg hr] at h; exact h.elim
      | false =>
        simp only [Bool.false_eq_true, if_false] at h
        intro w' H' y st R' ry
        cases ry
        exact ⟨rfl, h w' H' (.ref x) (st1.trans st) (R1.back R' st) (.ref (st.ρ _ _ x1))⟩
theorem se_make (hK : X.K = a.K) (M : Mk X.K (a.cls c) f) (hc : Cls X.K (a.cls c)) (F : FnOk X.prog X.w X.K X.mg X.base (L2.CX X.prog X.w) k f fd ps (spE X.K a.cls Φ q np)) (hr : Room (k + 1) X.A) (hg : Gl X c) (hm : X.mg c = some (.ref (a.cls c))) (hb : Binds X.K fd ps [])
    (tk : Takes X a.E) (ha : SA X a Φ (e :: es) ms) (hdb : (c == ("__debug__" : Str)) = false) (he : starEach (e :: es) X.env = (false, eval e X.env) :: starEach es X.env)
    (hpl : (backTo pos (starEach es X.env)).any (·.1) = false) : SE X a Φ (.Call (.Name c p) (e :: es) [] pos) (eMake c q np fr ms) :=
  PE.imp (pe_makeE M F hr hg hm hb (fun σ => passAt tk σ) ha hdb he hpl) fun σ H Q h => TR.one h fun w H s us vs r k => by
    by_cases hl : us.length + 1 = np
    · rw [if_pos hl] at k
      intro x dx hx hd ne
      have z := make_spec (by rw [← hK]; exact hc) k r hx hd ne
      rw [← r.length, hl, ← hK] at z
      exact z
    · rw [if_neg hl] at k; exact k.2.elim
end
end EL
set_option Elab.async false
set_option linter.all false
set_option maxRecDepth 100000
/-! ED3: for k, v in d.items(), the keys of d plain or tuples. -/
namespace EL
open PySem PySem.Spec PyProof.Rows L2

/-- the pairs of a dict of tuple keys -/
def ItT (d : Addr) (o : Obj) (kvs : List (List L2.Key × V)) : It :=
  ⟨fun i H => H d = some (.frz o (.dT kvs)) ∧ i < kvs.length, fun i H x H' => ∃ (T q : Addr) (k : List L2.Key) (v : V), kvs[i]? = some (k, v) ∧ x = .ref T ∧ H T = none ∧ H q = some (.tup (k.map kV)) ∧ H' = upd H T (.tup [.ref q, v]), fun i H => H d = some (.frz o (.dT kvs)) ∧ kvs.length ≤ i⟩
section
variable {X : Cx} {pins : List (Addr × Obj)} {σ : L2.St} {H : Hp} {s : Shared} {d : Addr} {o : Obj} {kvs : List (List L2.Key × V)}
theorem frzT_val (I : Inv X pins σ H s) (h : H d = some (.frz o (.dT kvs))) :
    (d == sysModules) = false ∧ s.heap.get? d = some o ∧ o.ExactDict ∧ ∃ (es : Array DictEntry) (ep : Nat), o.data = .dict es ep ∧ es.size = kvs.length ∧
      ∀ (i : Nat) (k : List L2.Key) (v : V), kvs[i]? = some (k, v) → ∃ (en : DictEntry) (q : Addr), es[i]? = some en ∧ en.key = .ref q ∧ H q = some (.tup (k.map kV)) ∧ RelV v en.val := by
  obtain ⟨hd, z, hs, xs, pr, o', es, ep, ho, hx, hdt, he, _⟩ := I.hok d _ h
  rw [hd] at ho
  cases ho
  refine ⟨hs, hd, hx, es, ep, hdt, ?_, fun i k v e => ?_⟩
  · have l1 : es.size = xs.length := size_of_entries he
    have l2 : kvs.length = xs.length := Paired.length pr
    omega
  · obtain ⟨b, hb, e1, e2, e3⟩ := paired_get pr e
    refine ⟨entryOfKey (tupleKind (mixKind X.prog X.w)) b, b.2.1, ?_, rfl, e2, e3⟩
    rw [entry_at he i, hb]
    rfl
end
section
variable {P : Program} {w : World} {K : PySem.W.Frag} {d : Addr} {o : Obj} {es : Array DictEntry} {ep : Nat}
theorem turn_itemsT {kvs : List (List L2.Key × V)} {elts : List Expr} {kk : Nat} {tpos : Pos} (it : Addr) (hod : o.data = .dict es ep) (hsz : es.size = kvs.length) :
    Turn P w K (.Tuple elts kk tpos) (ItT d o kvs) [it] it (fun i h => ∃ ok ov, IsItemIter h it d i es.size ep ok ov) where
  mem := by simp
  obj := fun i h st b hb => by
    have e : b = it := by simpa using hb
    subst e
    obtain ⟨ok, ov, e⟩ := st
    exact ⟨_, e, fun v z => nomatch z⟩
  keep := fun i h h' st k => let ⟨ok, ov, e⟩ := st; ⟨ok, ov, k it (by simp) _ e⟩
  item := by
    intro X hP hw hK hc i pins s σ H E I hf st hg
    subst hP hw hK
    obtain ⟨hd, hi⟩ := hg
    obtain ⟨hs, hgd, hx, es', ep', hdt, _, hv⟩ := frzT_val I hd
    obtain ⟨rfl, rfl⟩ := dict_ep hod hdt
    obtain ⟨⟨k, v⟩, hkv⟩ : ∃ p, kvs[i]? = some p := ⟨kvs[i], List.getElem?_eq_getElem hi⟩
    obtain ⟨en, q, hen, hkey, hq, rv⟩ := hv i k v hkv
    obtain ⟨ok, ov, he⟩ := st
    have his : i < es'.size := by omega
    have hen' : es'[i] = en := by
      rw [Array.getElem?_eq_getElem his] at hen
      exact Option.some.inj hen
    have hlt : it < s.heap.objs.size := Heap.lt_size he
    refine DT.nextI he ⟨o, hgd, hx, hdt⟩ his fun h' ho hT hz hk => ?_
    refine ⟨_, rfl, wpAny_letOwnedTupleGo_items (s := { s with heap := h' }) ho fun h'' he' sb => ?_⟩
    rw [hen', hkey] at hT
    have hT2 : h''.get? s.heap.objs.size = some { cls := .type "tuple", data := .seq #[.ref q, en.val] } := (sb.2 _ (Nat.ne_of_gt hlt)).trans hT
    have new : ObjOk X.prog X.w (upd H s.heap.objs.size (.tup [.ref q, v])) h'' s.heap.objs.size (.tup [.ref q, v]) :=
      ⟨by show 2 ≤ sizeLine; decide, [.ref q, en.val], .cons (show RelV (.ref q) (.ref q) from rfl) (.cons rv .nil), ⟨_, hT2, rfl, _, rfl⟩⟩
    have I1 : Inv X pins σ (upd H s.heap.objs.size (.tup [.ref q, v])) { s with heap := h'' } :=
      I.turnedNew (t' := s.toks) (ch := [it]) (fun b ob hb e => (sb.2 b (by simpa using hb)).trans (hk b ob (by simpa using hb) e)) hf (Nat.le_refl _) new
    refine ⟨.ref s.heap.objs.size, _, I1, rfl, ⟨_, q, k, v, hkv, rfl, I.hok.fresh (Nat.le_refl _), hq, rfl⟩, ⟨_, _, he'⟩, fun b hb => ?_⟩
    have e : b = it := by simpa using hb
    rw [e, upd_ne (Nat.ne_of_lt hlt)]
    exact (hf it (by simp)).1
  done := by
    intro X hP hw hK hc i pins s σ H E I hf st hg
    subst hP hw hK
    obtain ⟨hd, hi⟩ := hg
    obtain ⟨f0, f1, f2, f3, f4, f5⟩ := hf it (by simp)
    obtain ⟨hs, hgd, hx, es', ep', hdt, _, hv⟩ := frzT_val I hd
    obtain ⟨rfl, rfl⟩ := dict_ep hod hdt
    obtain ⟨ok, ov, he⟩ := st
    exact DT.endI (I.ok.hd hc) he ⟨o, hgd, hx, hdt⟩ (by omega) fun h' eb => ⟨rfl, I.turned (t' := s.toks) (fun b ob hb e => eb b ob hb e) f0 f1 f3 f4 f5⟩
  self := fun A i s Q E st h => let ⟨_, _, e⟩ := st; PySem.W.kcp_self e h
end
/-- d.items(), of both kinds -/
def iItB (td : TE) : TI := fun σ H R => td σ H fun x H1 => ∃ d o, x = .ref d ∧ ((∃ kvs, H1 d = some (.frz o (.dK kvs)) ∧ R (Iti d o kvs) H1) ∨ ∃ kvs, H1 d = some (.frz o (.dT kvs)) ∧ R (ItT d o kvs) H1)
theorem pi_itemsB {X : Cx} {e : Expr} {td : TE} {apos cpos tpos : Pos} {elts : List Expr} {kk : Nat} (he : PE X e td) (hbase : attributeBase e "items" X.env (eval e X.env) = eval e X.env) (hline : (apos.endLine == cpos.line) = true) :
    PI X (.Tuple elts kk tpos) (.Call (.Attribute e "items" apos) [] [] cpos) (iItB td) := by
  refine ⟨fun pins s σ H R I h => wpAny_Call_method (T := "dict") (id := "dict.items") hbase rfl hline F.plainAttrs_dict F.slot_dict_items F.type_dict_items (thn (he.run pins s σ H _ I h) fun u s1 ⟨x, H1, I1, rx, d, o, ex, q⟩ => ?_)⟩
  subst ex
  obtain rfl : u = Value.ref d := rx
  have I2 : Inv X pins σ H1 { s1 with heap := s1.heap.push { cls := .type "dict_items", data := .fields #[.ref d] } } := I1.kept (t' := s1.toks) fun b ob q => Heap.get?_push_of_some _ q
  have view : ({ s1 with heap := s1.heap.push { cls := .type "dict_items", data := .fields #[.ref d] } } : Shared).heap.IsItemsView s1.heap.objs.size d := ⟨_, Heap.get?_push_size _ rfl, rfl, rfl⟩
  rcases q with ⟨kvs, hd, q⟩ | ⟨kvs, hd, q⟩
  · obtain ⟨hs, hgd, hx, es, ep, vs, hdt, hsz, kv, hm⟩ := I1.frzK hd
    have hl : kvs.length = vs.length := Paired.length kv
    refine ⟨hm.dictOf.typeIs, hm.dictOf.mapOf.noDict, ?_⟩
    have fin : wpAny (model X.prog X.w) X.A (pyIter (.ref s1.heap.objs.size)) (PIE X pins σ (.Tuple elts kk tpos) R) X.xe { s1 with heap := s1.heap.push { cls := .type "dict_items", data := .fields #[.ref d] } } := by
      refine wpAny_pyIter_items (d := d) (knd := mixKind X.prog X.w) view (hm.push _) (pi_one (tk := s1.toks) I2 _ (turn_items _ hdt) ⟨.none, .none, ?_⟩ q)
      rw [hl]
      exact Heap.get?_push_size _ rfl
    show wpAny _ _ (callWith cpos (.builtin "dict.items") [.ref d] [] []) _ X.xe s1
    exact method_meetsIn F.slot_dict_items F.entry_dict_items rfl (PySem.evalArgs_none ⟨rfl, hm.dictOf.typeIs, F.args_dict_items_1 _, _, meets_dict_items (mixKind X.prog X.w) d hs, ⟨vs, hm.dictOf⟩, fin⟩)
  · obtain ⟨hs, hgd, hx, es, ep, hdt, hsz, hv⟩ := frzT_val I1 hd
    have raw : DT.Raw s1.heap d es ep := ⟨o, hgd, hx, hdt⟩
    refine ⟨raw.typeIs, fun b z => by cases z; exact ⟨o, hgd, hx.2.1⟩, ?_⟩
    have fin : wpAny (model X.prog X.w) X.A (pyIter (.ref s1.heap.objs.size)) (PIE X pins σ (.Tuple elts kk tpos) R) X.xe { s1 with heap := s1.heap.push { cls := .type "dict_items", data := .fields #[.ref d] } } := by
      refine DT.iterI (d := d) (es := es) (ep := ep) view (raw.push _) (pi_one (tk := s1.toks) I2 _ (turn_itemsT _ hdt hsz) ⟨.none, .none, ?_⟩ q)
      exact Heap.get?_push_size _ rfl
    show wpAny _ _ (callWith cpos (.builtin "dict.items") [.ref d] [] []) _ X.xe s1
    exact method_meetsIn F.slot_dict_items F.entry_dict_items rfl (PySem.evalArgs_none ⟨rfl, raw.typeIs, F.args_dict_items_1 _, _, DT.meetsItems (es := es) (ep := ep) hs, raw, fin⟩)

/-! ### E's side -/
section
variable {K : PySem.W.Frag} {cls : Cl} {w : W} {H : Hp}
theorem RU.kUV (k : L2.Key) : RU K cls w H (kU k) (kV k) := by
  cases k with
  | inl i => exact .int i
  | inr x => exact .str x
theorem RUs.kUV : ∀ ks : List L2.Key, RUs K cls w H (ks.map kU) (ks.map kV)
  | [] => .nil
  | k :: ks => .cons (RU.kUV k) (RUs.kUV ks)
theorem RKs.at {i : Nat} {k : L2.Key} {v : V} : ∀ {us : List (U × U)} {ks : List (L2.Key × V)} {i : Nat}, RKs K cls w H us ks → ks[i]? = some (k, v) → ∃ u, us[i]? = some (kU k, u) ∧ RU K cls w H u v
  | _, _, _, .nil, e => by simp at e
  | _, _, 0, .cons r t, e => by simp at e; obtain ⟨rfl, rfl⟩ := e; exact ⟨_, rfl, r⟩
  | _, _, i + 1, .cons r t, e => by
    simp only [List.getElem?_cons_succ] at e ⊢
    exact RKs.at (i := i) t e
theorem RTs.at {k : List L2.Key} {v : V} : ∀ {us : List (U × U)} {ks : List (List L2.Key × V)} {i : Nat}, RTs K cls w H us ks → ks[i]? = some (k, v) → ∃ u, us[i]? = some (.tup (k.map kU), u) ∧ RU K cls w H u v
  | _, _, _, .nil, e => by simp at e
  | _, _, 0, .cons r t, e => by simp at e; obtain ⟨rfl, rfl⟩ := e; exact ⟨_, rfl, r⟩
  | _, _, i + 1, .cons r t, e => by
    simp only [List.getElem?_cons_succ] at e ⊢
    exact RTs.at (i := i) t e
end
def itemsD : U → Option (List U)
  | .dic _ kvs => some (kvs.map fun e => .tup [e.1, e.2])
  | _ => none
def iPairs (m : M U) : M (List U) := bnd m fun u => ofO (itemsD u)
theorem walkU_dicK {a : Act} {us : List (U × U)} {ks : List (L2.Key × V)} {o : Obj} {p : Addr} {w : W} {H : Hp} (f : w.F p) (h : H p = some (.frz o (.dK ks))) (r : RKs a.K a.cls w H us ks) : WalkU a (us.map fun e => .tup [e.1, e.2]) (Iti p o ks) w H := by
  have hl := r.length
  refine ⟨fun H' => H' p = some (.frz o (.dK ks)), fun i H1 x H2 => ∃ T k v, ks[i]? = some (k, v) ∧ x = .ref T ∧ H1 T = none ∧ H2 = upd H1 T (.tup [kV k, v]), ⟨fun i H1 hi g => ⟨g, by rw [List.length_map, hl] at hi; exact hi⟩, fun H1 g => ⟨g, by rw [List.length_map, hl]; exact Nat.le_refl _⟩, fun i H1 x H2 hi g y => y⟩, fun w' H' st => (st.H p f).trans h, fun i H1 x H2 hi hy b w1 env hp σ hK hc st R => ?_⟩
  obtain ⟨T, k, v, e1, rfl, e2, rfl⟩ := hy
  obtain ⟨u, h1, h2⟩ := r.at (i := i) e1
  have st2 : Stp w1 H1 (w1.more T) (upd H1 T (.tup [kV k, v])) := Stp.new R e2
  refine ⟨w1.more T, .tup [kU k, u], st2, R.new e2, by rw [List.getElem?_map, h1]; rfl, .tup (.inr rfl) upd_same (.cons (RU.kUV k) (.cons (h2.mono (st.trans st2)) .nil))⟩
theorem walkU_dicT {a : Act} {us : List (U × U)} {ks : List (List L2.Key × V)} {o : Obj} {p : Addr} {w : W} {H : Hp} (f : w.F p) (h : H p = some (.frz o (.dT ks))) (r : RTs a.K a.cls w H us ks) : WalkU a (us.map fun e => .tup [e.1, e.2]) (ItT p o ks) w H := by
  have hl := r.length
  refine ⟨fun H' => H' p = some (.frz o (.dT ks)), fun i H1 x H2 => ∃ T q k v, ks[i]? = some (k, v) ∧ x = .ref T ∧ H1 T = none ∧ H1 q = some (.tup (k.map kV)) ∧ H2 = upd H1 T (.tup [.ref q, v]), ⟨fun i H1 hi g => ⟨g, by rw [List.length_map, hl] at hi; exact hi⟩, fun H1 g => ⟨g, by rw [List.length_map, hl]; exact Nat.le_refl _⟩, fun i H1 x H2 hi g y => y⟩, fun w' H' st => (st.H p f).trans h, fun i H1 x H2 hi hy b w1 env hp σ hK hc st R => ?_⟩
  obtain ⟨T, q, k, v, e1, rfl, e2, e3, rfl⟩ := hy
  obtain ⟨u, h1, h2⟩ := r.at (i := i) e1
  obtain ⟨R1, st1⟩ := R.addF e3
  have st2 := Stp.new (o := .tup [.ref q, v]) R1 e2
  have nq : q ≠ T := fun z => by rw [z, e2] at e3; cases e3
  refine ⟨_, .tup [.tup (k.map kU), u], st1.trans st2, R1.new e2, by rw [List.getElem?_map, h1]; rfl, .tup (.inr rfl) upd_same (.cons (.tup (.inl (.inr rfl)) (by rw [upd_ne nq]; exact e3) (RUs.kUV k)) (.cons (h2.mono ((st.trans st1).trans st2)) .nil))⟩
section
variable {X : Cx} {a : Act} {Φ : Phi} {e : Expr} {m : M U} {apos cpos tpos : Pos} {elts : List Expr} {kk : Nat}
theorem si_items (h : SE X a Φ e m) (hbase : attributeBase e "items" X.env (eval e X.env) = eval e X.env) (hline : (apos.endLine == cpos.line) = true) : SI X a Φ (.Tuple elts kk tpos) (.Call (.Attribute e "items" apos) [] [] cpos) (iPairs m) :=
  PI.imp (pi_itemsB h hbase hline) fun σ H R q => TR.one q fun w H s u x rx k => by
    obtain ⟨us, e, R', k2⟩ := Sat.fin k
    cases u <;> first | (cases e; done) | skip
    rename_i t kvs
    cases e
    cases rx with
    | dicK f1 h1 r1 => exact ⟨_, _, rfl, .inl ⟨_, h1, Out.now k2 R' (walkU_dicK f1 h1 r1)⟩⟩
    | dicT f1 h1 r1 => exact ⟨_, _, rfl, .inr ⟨_, h1, Out.now k2 R' (walkU_dicT f1 h1 r1)⟩⟩
end
end EL
set_option Elab.async false
set_option linter.all false
set_option maxRecDepth 100000
set_option maxHeartbeats 2000000
/-! ED4: dict comprehensions, the keys plain (HandS.DictComp's) or tuples (its proof, turned to tuple keys). -/
namespace EL
open PySem PySem.Spec PyProof.Rows L2

/-- d[k] = v by a comprehension, k a tuple -/
theorem dset_tup {X : Cx} {pins : List (Addr × Obj)} {σ : L2.St} {H : Hp} {s : Shared} {E : Value → Shared → Prop} {A : Around} {D b : Addr} {kvs : List (List L2.Key × V)} {k : List L2.Key} {v : V} {u r : Value} {Q : Unit → Shared → Prop} (hu : A.units + 1 < cLine) (I : Inv X pins σ H s)
    (eb : H b = some (.tup (k.map kV))) (e : H D = some (.dT kvs)) (l : kvs.length < sizeLine) (ry : RelV (.ref b) u) (rv : RelV v r) (h : ∀ s', Inv X pins σ (upd H D (.dT (putK kvs k v))) s' → Q () s') : wpAny (model X.prog X.w) A (dictSet D u r) Q E s := by
  cases (show u = Value.ref b from ry)
  obtain ⟨z, hd, xs, rel, dd⟩ := dt_of I.hok e
  have hz : xs.length ≤ sizeLine := by rw [← Paired.length rel]; exact z
  have hl : (putK kvs k v).length ≤ sizeLine := by have := length_putK kvs k v; omega
  refine wpAny_dictSet_heap (hsz := hz) (knd := tupleKind (mixKind X.prog X.w)) (show A.units < cLine by omega) (key_of I.hok eb) dd fun h' dd' hs => h _ ?_
  obtain ⟨q, es, ep, hq, h2, h3, h4, _, h5⟩ := dd'
  refine d_write I (by rw [e]; exact True.intro) hs ⟨q, hq⟩ ⟨hl, hd, _, (rel.put k eb rv).keeps fun c ys ec => ?_, q, es, ep, hq, h2, h3, h4, h5⟩
  rw [upd_ne (ne_of ec e (fun z => nomatch z))]
  exact ec
section
variable {X : Cx}
def tDcT (wi : TI) (g : TG) (tt : TT) (tk tv : TE) (vs : List Nat) : TE := fun σ H Q => wi σ H fun J H1 => ∀ D, H1 D = none → ∃ W : Nat → Nat → Hp → Prop, (∃ m, W 0 m (upd H1 D (.dT []))) ∧ ∀ i m H, W i m H →
  (J.stop i H ∧ Q (.ref D) H) ∨ (J.go i H ∧ ∃ Nx : Hp → Prop, (∀ H', Nx H' → ∃ m', m' < m ∧ W (i + 1) m' H') ∧ ∀ x H', J.yld i H x H' → g x (wipe σ vs) H' fun σ2 H2 => wipe σ2 vs = wipe σ vs ∧ tt σ2 H2 fun b H3 =>
    if b = true then tk σ2 H3 fun y H4 => tv σ2 H4 fun z H5 => ∃ kvs k b, y = .ref b ∧ H5 b = some (.tup (k.map kV)) ∧ H5 D = some (.dT kvs) ∧ kvs.length < sizeLine ∧ Nx (upd H5 D (.dT (putK kvs k z))) else Nx H3)
theorem dcT_core {pins : List (Addr × Obj)} {s : Shared} {σ : L2.St} {H : Hp} {Q : VK} {kx vx tg iter : Expr} {ifs : List Expr} {scope : Scope} {own : List (Str × Nat)} {pos pos' : Pos} {wi : TI} {g : TG} {tt : TT} {tk tv : TE} {use : Option (Value → Sem Unit)} {Qf : Value → Shared → Prop}
    (hu : X.A.units + 1 < cLine) (hc : X.calm = true) (hN : X.N.Nodup) (I : Inv X pins σ H s) (hi : PI X tg iter wi) (ok : BlkOk X.N X.env.scope scope own)
    (hg : ∀ (s : Shared) (H : Hp) (C : Addr) (cl : List (Str × Addr)) (fp : List Addr), PG (X.blk s H scope (compEnvC scope cl C X.env) fp) tg g) (ht : ∀ (s : Shared) (H : Hp) (C : Addr) (cl : List (Str × Addr)) (fp : List Addr), PTs (X.blk s H scope (compEnvC scope cl C X.env) fp) ifs tt)
    (hk : ∀ (s : Shared) (H : Hp) (C : Addr) (cl : List (Str × Addr)) (fp : List Addr), PE (X.blk s H scope (compEnvC scope cl C X.env) fp) kx tk)
    (he : ∀ (s : Shared) (H : Hp) (C : Addr) (cl : List (Str × Addr)) (fp : List Addr), PE (X.blk s H scope (compEnvC scope cl C X.env) fp) vx tv) (hs : ∀ x, foldedSetIterable iter X.env x = pure x)
    (h : tDcT wi g tt tk tv (own.map (·.2)) σ H Q)
    (hRR : ∀ D C s' m H', Inv X pins σ H' s' → Q (.ref D) H' → s'.heap.Ns C m → FpOk X pins H' C → compPost (model X.prog X.w) X.A X.xe use Qf (.ref D) C (.ok .next) s') :
    wpAny (model X.prog X.w) X.A (comprehension (.DictComp kx vx [⟨tg, iter, ifs, 0⟩] scope pos) scope X.env pos' newDict false (eval iter X.env) use) Qf X.xe s := by
  have hfree : ∀ y ∈ scope.names, y.2 = .free → ∃ c, X.env.cells.lookup y.1 = some c := fun y hy e => by
    rcases ok.free y hy e with k | k
    · exact I.ok.has _ (.inl k)
    · exact I.ok.has _ (.inr k)
  refine wpAny_comprehension_free (use := use) rfl hs (closure_ok hfree) ok.kind (fun y hy e => by rw [ok.uniq y hy, e])
    (thn (hi.run pins s σ H _ I h) fun xv s1 hx => thn hx fun itv s2 h2 => ?_)
  obtain ⟨it, fp, tn, J, H2, e, I2, T, st2, f2, q⟩ := h2
  subst e
  refine wpAny_newObj_type (newEnv_comp ?_)
  generalize hD : s2.heap.objs.size = D
  have hDn : H2 D = none := I2.hok.fresh (Nat.le_of_eq hD)
  obtain ⟨W, ⟨m0, w0⟩, turn⟩ := q D hDn
  -- the new list
  generalize hs3 : ({ s2 with heap := s2.heap.push { cls := .type "dict", data := .dict #[] } } : Shared) = s3
  have I3 : Inv X pins σ (upd H2 D (.dT [])) s3 := by
    rw [← hs3]
    refine I2.laid (t' := s2.toks) (fun b o e => Heap.get?_push_of_some _ e) (Nat.le_of_eq hD) ?_
    rw [← hD]
    exact dt_empty s2.heap I2.big
  have h3 : s3.heap = s2.heap.push { cls := .type "dict", data := .dict #[] } := by rw [← hs3]
  have sz : ∀ b ∈ fp, b < s2.heap.objs.size := fun b hb => by
    obtain ⟨o, e, _⟩ := T.obj _ _ st2 b hb
    exact Heap.lt_size e
  have f3 : ∀ b ∈ fp, FpOk X pins (upd H2 D (.dT [])) b ∧ b < s3.heap.objs.size := fun b hb => by
    have hlt := sz b hb
    refine ⟨⟨?_, (f2 b hb).2⟩, by rw [h3, Heap.size_push]; exact Nat.lt_succ_of_lt hlt⟩
    rw [upd_ne (by rw [← hD]; exact Nat.ne_of_lt hlt)]
    exact (f2 b hb).1
  have st3 : tn 0 s3.heap := T.keep _ _ _ st2 fun b _ o e => by rw [h3]; exact Heap.get?_push_of_some _ e
  have I4 := block_start I3 ok hN f3
  have pg := hg s3 (upd H2 D (.dT [])) s3.heap.objs.size (cellsFrom (s3.heap.objs.size + 1) scope.names (cloFrom X.env.cells scope.names [])) fp
  have pt := ht s3 (upd H2 D (.dT [])) s3.heap.objs.size (cellsFrom (s3.heap.objs.size + 1) scope.names (cloFrom X.env.cells scope.names [])) fp
  have pk := hk s3 (upd H2 D (.dT [])) s3.heap.objs.size (cellsFrom (s3.heap.objs.size + 1) scope.names (cloFrom X.env.cells scope.names [])) fp
  have pe := he s3 (upd H2 D (.dT [])) s3.heap.objs.size (cellsFrom (s3.heap.objs.size + 1) scope.names (cloFrom X.env.cells scope.names [])) fp
  show codeAny _ _ (.compStart (.DictComp kx vx [⟨tg, iter, ifs, 0⟩] scope pos) 0 (.ref it) (.ref D) (compEnvC scope (cellsFrom (s3.heap.objs.size + 1) scope.names (cloFrom X.env.cells scope.names [])) s3.heap.objs.size X.env)) (compPost (model X.prog X.w) X.A X.xe use Qf (.ref D) s3.heap.objs.size) { s3 with heap := pushCells (s3.heap.push { cls := .type "dict", data := .dict #[] }) scope.names }
  have nfp : ∀ b ∈ fp, (upd H2 D (.dT [])) b = none := fun b hb => (f3 b hb).1.1
  generalize hce : compEnvC scope (cellsFrom (s3.heap.objs.size + 1) scope.names (cloFrom X.env.cells scope.names [])) s3.heap.objs.size X.env = ce at I4 pg pt pk pe ⊢
  have cL : ce.locals = s3.heap.objs.size := by subst hce; rfl
  generalize hH3 : upd H2 D (.dT []) = H3 at I3 I4 pg pt pk pe w0 nfp f3
  generalize hs4 : ({ s3 with heap := pushCells (s3.heap.push { cls := .type "dict", data := .dict #[] }) scope.names } : Shared) = s4 at I4 ⊢
  have st4 : tn 0 s4.heap := T.keep _ _ _ st3 fun b _ o e => by rw [← hs4]; exact pushCells_keeps _ _ _ _ (Heap.get?_push_of_some _ e)
  have stat : ∀ {σ' : L2.St} {H' : Hp} {s' : Shared}, Inv (X.blk s3 H3 scope ce fp) [] σ' H' s' → (∀ b ∈ fp, H' b = none) → ∀ b ∈ fp, FpOk (X.blk s3 H3 scope ce fp) [] H' b := fun {σ' H' s'} I' hn b hb =>
    ⟨hn b hb, (I'.ok.exf b hb).1, I'.ok.exfs b hb, .inl hb, fun x c e => (I'.ok.exf b hb).2 x c e, fun p hp => absurd (show p ∈ ([] : List (Addr × Obj)) ++ [] from hp) (by simp)⟩
  have loop : codeAny (model X.prog X.w) X.A (.compLoop (.DictComp kx vx [⟨tg, iter, ifs, 0⟩] scope pos) 0 (.ref it) (.ref D) ce) (compPost (model X.prog X.w) X.A X.xe use Qf (.ref D) s3.heap.objs.size) s4 := by
    refine compLoop_anyD (fun n s' => ∃ i H', Inv (X.blk s3 H3 scope ce fp) [] (wipe σ (own.map (·.2))) H' s' ∧ tn i s'.heap ∧ (∀ b ∈ fp, H' b = none) ∧ W i n H') ?_ m0 ⟨0, H3, I4, st4, nfp, w0⟩
    rintro n s5 ⟨i, H5, I5, st5, n5, w5⟩
    rcases turn i n H5 w5 with ⟨stop, qq⟩ | ⟨go, Nx, hNx, step⟩
    · have td := T.done (X.blk s3 H3 scope ce fp) rfl rfl rfl hc i [] s5 _ H5 (fun _ _ => False) I5 (stat I5 n5) st5 stop
      refine thnF td fun r s6 ⟨hr, I6⟩ => ?_
      subst hr
      -- back in the def's context
      have I7 : Inv X pins σ H5 s6 := I3.call' (ch := fp) I6.os I6.base I6.hok I6.bare fun b hb => ⟨(f3 b hb).1.2.2.2.1, (f3 b hb).1.2.1, (f3 b hb).1.2.2.2.2.1, (f3 b hb).1.2.2.2.2.2⟩
      have nC : H5 s3.heap.objs.size = none := by
        have z : H5 ce.locals = none := I6.free
        rw [cL] at z
        exact z
      obtain ⟨m, hn, _⟩ := I6.loc
      have hn : s6.heap.Ns ce.locals m := hn
      rw [cL] at hn
      exact hRR D s3.heap.objs.size s6 m H5 I7 qq hn (I3.fpOk (Nat.le_refl _) nC)
    · have ti := T.item (X.blk s3 H3 scope ce fp) rfl rfl rfl hc i [] s5 _ H5 (fun _ _ => False) I5 (stat I5 n5) st5 go
      refine thnF ti fun r s6 ⟨u, hr, h6⟩ => ?_
      subst hr
      refine thnF h6 fun _ s7 ⟨x, H7, I7, r7, y7, st7, n7⟩ => ?_
      have I7' := I7.pinned (stat I7 n7) (T.obj _ _ st7)
      refine thnF (pg.run _ s7 _ H7 x u _ I7' r7 (step x H7 y7)) fun _ s8 ⟨σ8, H8, I8, hw8, q8⟩ => ?_
      refine thnF (pt.run _ s8 σ8 H8 _ I8 q8) fun b s9 ⟨H9, I9, q9⟩ => ?_
      -- the turn's end
      have fin : ∀ {s' : Shared} {H' : Hp}, Inv (X.blk s3 H3 scope ce fp) ([] ++ pinsAt fp s7.heap) σ8 H' s' → Nx H' → ∃ m, m < n ∧ ∃ i H', Inv (X.blk s3 H3 scope ce fp) [] (wipe σ (own.map (·.2))) H' s' ∧ tn i s'.heap ∧ (∀ b ∈ fp, H' b = none) ∧ W i m H' := fun {s' H'} I' nx => by
        obtain ⟨m', hm, w'⟩ := hNx H' nx
        have pin' : ∀ b ∈ fp, ∀ o, s7.heap.get? b = some o → s'.heap.get? b = some o ∧ H' b = none := fun b hb o e =>
          let z := I'.pin (b, o) (List.mem_append_right _ (List.mem_append_right _ (mem_pinsAt hb e)))
          ⟨z.1, z.2.1⟩
        have hl : (wipe σ (own.map (·.2))).length = σ8.length := by rw [← hw8, wipe_length]
        refine ⟨m', hm, i + 1, H', (I'.unpinned (pins := [])).weak hl (fun j v e => ?_), T.keep _ _ _ st7 fun b hb o e => (pin' b hb o e).1, fun b hb => ?_, w'⟩
        · rw [← hw8] at e
          exact (wipe_some e).1
        · obtain ⟨o, e, _⟩ := T.obj _ _ st7 b hb
          exact (pin' b hb o e).2
      cases b with
      | false =>
        simp only [Bool.false_eq_true, if_false] at q9 ⊢
        exact fin I9 q9
      | true =>
        simp only [if_true] at q9 ⊢
        refine thnF (pk.run _ s9 σ8 H9 _ I9 q9) fun z s10 ⟨yk, H10, I10, r10, q10⟩ => ?_
        refine thnF (pe.run _ s10 σ8 H10 _ I10 q10) fun z2 s11 ⟨yv, H11, I11, r11, kvs, k, kb, ek, hkb, hD11, hz11, nx⟩ => ?_
        subst ek
        exact dset_tup (X := X.blk s3 H3 scope ce fp) hu I11 hkb hD11 hz11 r10 r11 fun s12 I12 => fin I12 nx
  exact codeAny_compStart_dict loop (T.self X.A 0 _ _ _ st4 loop)
theorem pe_dcT {kx vx tg iter : Expr} {ifs : List Expr} {scope : Scope} {own : List (Str × Nat)} {pos : Pos} {wi : TI} {g : TG} {tt : TT} {tk tv : TE} (hu : X.A.units + 1 < cLine) (hc : X.calm = true) (hN : X.N.Nodup) (hi : PI X tg iter wi) (ok : BlkOk X.N X.env.scope scope own)
    (hg : ∀ (s : Shared) (H : Hp) (C : Addr) (cl : List (Str × Addr)) (fp : List Addr), PG (X.blk s H scope (compEnvC scope cl C X.env) fp) tg g) (ht : ∀ (s : Shared) (H : Hp) (C : Addr) (cl : List (Str × Addr)) (fp : List Addr), PTs (X.blk s H scope (compEnvC scope cl C X.env) fp) ifs tt)
    (hk : ∀ (s : Shared) (H : Hp) (C : Addr) (cl : List (Str × Addr)) (fp : List Addr), PE (X.blk s H scope (compEnvC scope cl C X.env) fp) kx tk)
    (he : ∀ (s : Shared) (H : Hp) (C : Addr) (cl : List (Str × Addr)) (fp : List Addr), PE (X.blk s H scope (compEnvC scope cl C X.env) fp) vx tv) (hs : ∀ x, foldedSetIterable iter X.env x = pure x := by intro _; rfl) :
    PE X (.DictComp kx vx [⟨tg, iter, ifs, 0⟩] scope pos) (tDcT wi g tt tk tv (own.map (·.2))) := by
  refine ⟨fun pins s σ H Q I h => ?_⟩
  rw [arm_eval_DictComp]
  refine dcT_core hu hc hN I hi ok hg ht hk he hs h fun D C s' m H' I' q hn f => ⟨m, hn, fun h'' sb => ?_⟩
  obtain ⟨f0, f1, f2, f3, f4, f5⟩ := f
  exact ⟨.ref D, H', I'.turned (t' := s'.toks) (fun b o hb e => (sb.2 b hb).trans e) f0 f1 f3 f4 f5, rfl, q⟩
end
end EL
set_option Elab.async false
set_option linter.all false
set_option maxRecDepth 100000
/-! ED5: E's dict comprehensions. -/
namespace EL
open PySem PySem.Spec PyProof.Rows L2

def turnD (f : U → M Unit) (t : M Bool) (vs : List Nat) (u : U) (yes no : M (List (U × U))) : M (List (U × U)) := bnd (wipeM vs) fun _ => bnd (f u) fun _ => bnd t fun b => if b = true then yes else no
def pushD (tk : Bool) (mk mv : M U) (acc : List (U × U)) : M (List (U × U)) := bnd mk fun k => bnd mv fun v => ofO (put tk acc k v)
def dcL (tk : Bool) (f : U → M Unit) (t : M Bool) (mk mv : M U) (vs : List Nat) : List U → List (U × U) → M (List (U × U))
  | [], acc => ret acc
  | u :: us, acc => bnd (turnD f t vs u (pushD tk mk mv acc) (ret acc)) fun acc' => dcL tk f t mk mv vs us acc'
def oDC (tk : Bool) (mi : M (List U)) (f : U → M Unit) (t : M Bool) (mk mv : M U) (vs : List Nat) : M SV := bnd mi fun us => fun Φ s => match dcL tk f t mk mv vs us [] Φ s with
  | some (.ok acc s') => some (.ok (.od tk acc) ⟨backE s.env (wipeE s'.env vs) vs, s'.hp⟩)
  | _ => none
section
variable {X : Cx} {a : Act} {Φ : Phi} {kx vx tg iter : Expr} {ifs : List Expr} {scope : Scope} {own : List (Str × Nat)} {mi : M (List U)} {f : U → M Unit} {t : M Bool} {mk mv : M U} {pos : Pos} {sl : List Nat}
theorem dc_keyT {vs : List Nat} {σ : L2.St} {H : Hp} {Q : V → Hp → Prop} (hsl : ∀ j, j ∈ sl → j ∈ vs) (q : TRO a Φ (oDC true mi f t mk mv vs) σ H Q) : tDcT (tWi a Φ mi) (tGx a Φ sl f) (tTx a Φ t) (tEx a Φ mk) (tEx a Φ mv) vs σ H Q := by
  refine TRO.one q fun w0 H0 s0 us J hJ R0 k D hD => ?_
  obtain ⟨G, Y, hw, hG, hY⟩ := hJ
  have k : Leads Φ s0 (dcL true f t mk mv vs us []) fun acc s' => ∀ (w' : W) (H' : Hp) (p : Addr), Stp w0 H0 w' H' → Pend a w' (backE s0.env (wipeE s'.env vs) vs) s'.hp σ H' (.od true acc) p → Q (.ref p) H' := by
    unfold Leads
    revert k
    cases dcL true f t mk mv vs us [] Φ s0 with
    | none => exact fun k => k
    | some z => cases z with
      | ok x s' => exact fun k => k
      | ex c g v s' => exact fun k => k
  have nD := R0.isNew hD
  obtain ⟨R1, st1⟩ := R0.toPin (o := .dT []) hD
  let Pv : Nat → Hp → Prop := fun i H => ∃ w s acc accV, Stp w0 H0 w H ∧ Rel (a.pin D (.dT accV)) w (wipeE s.env vs) s.hp (L2.wipe σ vs) H ∧ RTs a.K a.cls w H acc accV ∧ Leads Φ s (dcL true f t mk mv vs (us.drop i) acc) fun acc s' => ∀ (w' : W) (H' : Hp) (p : Addr), Stp w0 H0 w' H' → Pend a w' (backE s0.env (wipeE s'.env vs) vs) s'.hp σ H' (.od true acc) p → Q (.ref p) H'
  refine ⟨fun i m H => m = us.length - i ∧ i ≤ us.length ∧ Pv i H, ⟨us.length, by simp, Nat.zero_le _, w0, s0, [], [], st1, R1.wipe vs, .nil, by simpa using k⟩, ?_⟩
  rintro i mm H ⟨rfl, hi, pv⟩
  by_cases hlt : i < us.length
  · obtain ⟨w, s, acc, accV, st, R, ra, k⟩ := pv
    refine .inr ⟨hw.goes i H hlt (hG w H st), Pv (i + 1), fun H' p' => ⟨us.length - (i + 1), by omega, rfl, hlt, p'⟩, fun x H' y => ?_⟩
    obtain ⟨w2, u, st2, R2, hu, ru⟩ := hY i H x H' hlt (hw.yields i H x H' hlt (hG w H st) y) (a.pin D (.dT accV)).nox w (wipeE s.env vs) s.hp (L2.wipe σ vs) rfl rfl st R.nox
    have hd : us.drop i = u :: us.drop (i + 1) := by
      rw [List.drop_eq_getElem_cons hlt]
      congr 1
      exact Option.some.inj ((List.getElem?_eq_getElem hlt).symm.trans hu)
    rw [hd] at k
    have ib : InB a (a.pin D (.dT accV)).nox := ⟨rfl, rfl, rfl⟩
    have k1 := Leads.bnd k
    have k2 : Leads Φ ⟨wipeE s.env vs, s.hp⟩ (f u) fun _ s1 => Leads Φ s1 (bnd t fun b => if b = true then pushD true mk mv acc else ret acc) fun acc' s' => Leads Φ s' (dcL true f t mk mv vs (us.drop (i + 1)) acc') _ := Leads.bnd (m := f u) k1
    refine ⟨_, ib, w2, ⟨wipeE s.env vs, s.hp⟩, u, ru, Leads.tg R2 k2 fun w3 H3 σ3 s3 st3 R3 sb k3 => ?_⟩
    have hws := wipe_same hsl sb
    refine ⟨hws, _, ib, Leads.tr (rel := relB) R3 (Leads.bnd k3) fun w4 H4 b c s4 st4 R4 e4 k4 => ?_⟩
    have e5 : b = c := e4
    subst e5
    have st5 := ((st.trans st2).trans st3).trans st4
    cases b with
    | false =>
      rw [if_neg Bool.false_ne_true]
      have R5 := (R4.ofNox).wipe vs
      rw [hws] at R5
      exact ⟨w4, s4, acc, accV, st5, R5, ra.mono ((st2.trans st3).trans st4), k4⟩
    | true =>
      rw [if_pos rfl]
      refine ⟨_, ib, Leads.tr (rel := relU _) R4 (Leads.bnd (m := mk) k4) fun w6 H6 kk yk s6 st6 R6 rk k6 => ?_⟩
      refine ⟨_, ib, Leads.tr (rel := relU _) R6 (Leads.bnd (m := mv) k6) fun w7 H7 v yv s7 st7 R7 rv k7 => ?_⟩
      have R7' := R7.ofNox
      obtain ⟨d1, d2, d3, d4⟩ := nD.out R7'
      have hlen : acc.length = accV.length := ra.length
      have stA := ((st5.trans st6).trans st7)
      have ra7 := ra.mono ((((st2.trans st3).trans st4).trans st6).trans st7)
      have rk7 := rk.mono st7
      cases e7 : put true acc kk v with
      | none => rw [e7] at k7; exact k7.elim
      | some acc2 =>
        rw [e7] at k7
        unfold put at e7
        by_cases hl : acc.length < line
        · rw [if_pos hl] at e7
          simp only [if_true] at e7
          cases hk : toKT kk with
          | none => rw [hk] at e7; cases e7
          | some kl =>
            rw [hk] at e7; cases e7
            obtain ⟨b, rfl, hb, rfl⟩ := toKT_some rk7 hk
            obtain ⟨R8, st8⟩ := R7'.rePin (o' := .dT (putK accV kl yv)) nD
            have R9 := R8.wipe vs
            rw [hws] at R9
            exact ⟨accV, kl, b, rfl, hb, d1, by rw [← hlen]; exact hl, w7, s7, _, _, stA.trans st8, R9, (RTs.put rv ra7).mono st8, k7⟩
        · rw [if_neg hl] at e7; cases e7
  · have e : i = us.length := by omega
    subst e
    obtain ⟨w, s, acc, accV, st, R, ra, k⟩ := pv
    refine .inl ⟨hw.stops H (hG w H st), ?_⟩
    rw [List.drop_length] at k
    have R2 := Rel.unwipe (a := a.pin D (.dT accV)) R0 rfl rfl st R
    obtain ⟨d1, d2, d3, d4⟩ := nD.out R2
    exact k w H D st (R2.unPin nD rfl ⟨D, rfl, .dicT d1 ra⟩)
theorem dc_keyK {vs : List Nat} {σ : L2.St} {H : Hp} {Q : V → Hp → Prop} (hsl : ∀ j, j ∈ sl → j ∈ vs) (q : TRO a Φ (oDC false mi f t mk mv vs) σ H Q) : tDc (tWi a Φ mi) (tGx a Φ sl f) (tTx a Φ t) (tEx a Φ mk) (tEx a Φ mv) vs σ H Q := by
  refine TRO.one q fun w0 H0 s0 us J hJ R0 k D hD => ?_
  obtain ⟨G, Y, hw, hG, hY⟩ := hJ
  have k : Leads Φ s0 (dcL false f t mk mv vs us []) fun acc s' => ∀ (w' : W) (H' : Hp) (p : Addr), Stp w0 H0 w' H' → Pend a w' (backE s0.env (wipeE s'.env vs) vs) s'.hp σ H' (.od false acc) p → Q (.ref p) H' := by
    unfold Leads
    revert k
    cases dcL false f t mk mv vs us [] Φ s0 with
    | none => exact fun k => k
    | some z => cases z with
      | ok x s' => exact fun k => k
      | ex c g v s' => exact fun k => k
  have nD := R0.isNew hD
  obtain ⟨R1, st1⟩ := R0.toPin (o := .dK []) hD
  let Pv : Nat → Hp → Prop := fun i H => ∃ w s acc accV, Stp w0 H0 w H ∧ Rel (a.pin D (.dK accV)) w (wipeE s.env vs) s.hp (L2.wipe σ vs) H ∧ RKs a.K a.cls w H acc accV ∧ Leads Φ s (dcL false f t mk mv vs (us.drop i) acc) fun acc s' => ∀ (w' : W) (H' : Hp) (p : Addr), Stp w0 H0 w' H' → Pend a w' (backE s0.env (wipeE s'.env vs) vs) s'.hp σ H' (.od false acc) p → Q (.ref p) H'
  refine ⟨fun i m H => m = us.length - i ∧ i ≤ us.length ∧ Pv i H, ⟨us.length, by simp, Nat.zero_le _, w0, s0, [], [], st1, R1.wipe vs, .nil, by simpa using k⟩, ?_⟩
  rintro i mm H ⟨rfl, hi, pv⟩
  by_cases hlt : i < us.length
  · obtain ⟨w, s, acc, accV, st, R, ra, k⟩ := pv
    refine .inr ⟨hw.goes i H hlt (hG w H st), Pv (i + 1), fun H' p' => ⟨us.length - (i + 1), by omega, rfl, hlt, p'⟩, fun x H' y => ?_⟩
    obtain ⟨w2, u, st2, R2, hu, ru⟩ := hY i H x H' hlt (hw.yields i H x H' hlt (hG w H st) y) (a.pin D (.dK accV)).nox w (wipeE s.env vs) s.hp (L2.wipe σ vs) rfl rfl st R.nox
    have hd : us.drop i = u :: us.drop (i + 1) := by
      rw [List.drop_eq_getElem_cons hlt]
      congr 1
      exact Option.some.inj ((List.getElem?_eq_getElem hlt).symm.trans hu)
    rw [hd] at k
    have ib : InB a (a.pin D (.dK accV)).nox := ⟨rfl, rfl, rfl⟩
    have k1 := Leads.bnd k
    have k2 : Leads Φ ⟨wipeE s.env vs, s.hp⟩ (f u) fun _ s1 => Leads Φ s1 (bnd t fun b => if b = true then pushD false mk mv acc else ret acc) fun acc' s' => Leads Φ s' (dcL false f t mk mv vs (us.drop (i + 1)) acc') _ := Leads.bnd (m := f u) k1
    refine ⟨_, ib, w2, ⟨wipeE s.env vs, s.hp⟩, u, ru, Leads.tg R2 k2 fun w3 H3 σ3 s3 st3 R3 sb k3 => ?_⟩
    have hws := wipe_same hsl sb
    refine ⟨hws, _, ib, Leads.tr (rel := relB) R3 (Leads.bnd k3) fun w4 H4 b c s4 st4 R4 e4 k4 => ?_⟩
    have e5 : b = c := e4
    subst e5
    have st5 := ((st.trans st2).trans st3).trans st4
    cases b with
    | false =>
      rw [if_neg Bool.false_ne_true]
      have R5 := (R4.ofNox).wipe vs
      rw [hws] at R5
      exact ⟨w4, s4, acc, accV, st5, R5, ra.mono ((st2.trans st3).trans st4), k4⟩
    | true =>
      rw [if_pos rfl]
      refine ⟨_, ib, Leads.tr (rel := relU _) R4 (Leads.bnd (m := mk) k4) fun w6 H6 kk yk s6 st6 R6 rk k6 => ?_⟩
      refine ⟨_, ib, Leads.tr (rel := relU _) R6 (Leads.bnd (m := mv) k6) fun w7 H7 v yv s7 st7 R7 rv k7 => ?_⟩
      have R7' := R7.ofNox
      obtain ⟨d1, d2, d3, d4⟩ := nD.out R7'
      have hlen : acc.length = accV.length := ra.length
      have stA := ((st5.trans st6).trans st7)
      have ra7 := ra.mono ((((st2.trans st3).trans st4).trans st6).trans st7)
      have rk7 := rk.mono st7
      cases e7 : put false acc kk v with
      | none => rw [e7] at k7; exact k7.elim
      | some acc2 =>
        rw [e7] at k7
        unfold put at e7
        by_cases hl : acc.length < line
        · rw [if_pos hl] at e7
          simp only [Bool.false_eq_true, if_false] at e7
          cases hk : toK kk with
          | none => rw [hk] at e7; cases e7
          | some kl =>
            rw [hk] at e7; cases e7
            obtain ⟨rfl, rfl⟩ := toK_some rk7 hk
            obtain ⟨R8, st8⟩ := R7'.rePin (o' := .dK (putK accV kl yv)) nD
            have R9 := R8.wipe vs
            rw [hws] at R9
            exact ⟨accV, kl, rfl, d1, by rw [← hlen]; exact hl, w7, s7, _, _, stA.trans st8, R9, (RKs.put rv ra7).mono st8, k7⟩
        · rw [if_neg hl] at e7; cases e7
  · have e : i = us.length := by omega
    subst e
    obtain ⟨w, s, acc, accV, st, R, ra, k⟩ := pv
    refine .inl ⟨hw.stops H (hG w H st), ?_⟩
    rw [List.drop_length] at k
    have R2 := Rel.unwipe (a := a.pin D (.dK accV)) R0 rfl rfl st R
    obtain ⟨d1, d2, d3, d4⟩ := nD.out R2
    exact k w H D st (R2.unPin nD rfl ⟨D, rfl, .dicK d1 ra⟩)
theorem so_dc (tk : Bool) (hu : X.A.units + 1 < cLine) (hc : X.calm = true) (hN : X.N.Nodup) (hi : SI X a Φ tg iter mi) (ok : BlkOk X.N X.env.scope scope own) (hsl : ∀ j, j ∈ sl → j ∈ own.map (·.2))
    (hg : ∀ (s : Shared) (H : Hp) (C : Addr) (cl : List (Str × Addr)) (fp : List Addr) (b : Act), InB a b → SG (X.blk s H scope (compEnvC scope cl C X.env) fp) b Φ sl tg f)
    (ht : ∀ (s : Shared) (H : Hp) (C : Addr) (cl : List (Str × Addr)) (fp : List Addr) (b : Act), InB a b → STs (X.blk s H scope (compEnvC scope cl C X.env) fp) b Φ ifs t)
    (hk : ∀ (s : Shared) (H : Hp) (C : Addr) (cl : List (Str × Addr)) (fp : List Addr) (b : Act), InB a b → SE (X.blk s H scope (compEnvC scope cl C X.env) fp) b Φ kx mk)
    (hv : ∀ (s : Shared) (H : Hp) (C : Addr) (cl : List (Str × Addr)) (fp : List Addr) (b : Act), InB a b → SE (X.blk s H scope (compEnvC scope cl C X.env) fp) b Φ vx mv) (hs : ∀ x, foldedSetIterable iter X.env x = pure x) :
    SO X a Φ (.DictComp kx vx [⟨tg, iter, ifs, 0⟩] scope pos) (oDC tk mi f t mk mv (own.map (·.2))) := by
  cases tk with
  | true => exact PE.imp (pe_dcT hu hc hN hi ok (fun s H C cl fp => PG.ex (C := InB a) fun b hb => hg s H C cl fp b hb) (fun s H C cl fp => PTs.ex (C := InB a) fun b hb => ht s H C cl fp b hb) (fun s H C cl fp => PE.ex (C := InB a) fun b hb => hk s H C cl fp b hb) (fun s H C cl fp => PE.ex (C := InB a) fun b hb => hv s H C cl fp b hb) hs) fun σ H Q q => dc_keyT hsl q
  | false => exact PE.imp (pe_dc hc hN hi ok (fun s H C cl fp => PG.ex (C := InB a) fun b hb => hg s H C cl fp b hb) (fun s H C cl fp => PTs.ex (C := InB a) fun b hb => ht s H C cl fp b hb) (fun s H C cl fp => PE.ex (C := InB a) fun b hb => hk s H C cl fp b hb) (fun s H C cl fp => PE.ex (C := InB a) fun b hb => hv s H C cl fp b hb) hs) fun σ H Q q => dc_keyK hsl q
end
end EL
set_option Elab.async false
set_option linter.all false
set_option maxRecDepth 100000
/-! ED6: slices, chains as tests, isinstance, d.get. -/
namespace EL
open PySem PySem.Spec PyProof.Rows L2

/-! ### slices -/
def relP : W → Hp → Option Int → Option Int → Prop := fun _ _ x y => x = y
def SP (X : Cx) (a : Act) (Φ : Phi) (e : Option Expr) (m : M (Option Int)) : Prop := PO X e (TR a Φ m relP)
theorem PO.imp {X : Cx} {e : Option Expr} {t t' : TO} (h : PO X e t) (i : ∀ σ H Q, t' σ H Q → t σ H Q) : PO X e t' := ⟨fun pins s σ H Q I q => h.run pins s σ H Q I (i σ H Q q)⟩
def pNone : M (Option Int) := ret none
def pSome (m : M U) : M (Option Int) := bnd m fun u => match u with
  | .int i => ret (some i)
  | _ => fail
def cutU (us : List U) (lo hi : Option Int) : List U := (us.drop (HT.sIx us.length 0 lo)).take (HT.sIx us.length us.length hi - HT.sIx us.length 0 lo)
def cutH (s : S) (h : Hd) (lo hi : Option Int) : Option U := match h with
  | .u (.tup us) => some (.tup (cutU us lo hi))
  | h => match seqOf s h with
    | some (false, us) => some (.lst (cutU us lo hi))
    | _ => none
def eSl (mh : M Hd) (ml mu : M (Option Int)) : M U := bnd mh fun h => bnd ml fun l => bnd mu fun u => look' fun s => cutH s h l u
section
variable {X : Cx} {a : Act} {Φ : Phi} {e : Expr} {lo hi : Option Expr} {m : M U} {mh : M Hd} {ml mu : M (Option Int)} {p2 pos : Pos}
theorem sp_none : SP X a Φ none pNone := PO.imp po_none fun σ H Q ⟨w, s, R, h⟩ => h w H none Stp.refl R rfl
theorem sp_some (h : SE X a Φ e m) : SP X a Φ (some e) (pSome m) := PO.imp (po_some h) fun σ H Q q => TR.one q fun w H s u x rx k => by
  cases u <;> first | exact k.2.elim | skip
  cases rx
  exact ⟨_, rfl, k.2 w H _ Stp.refl k.1 rfl⟩
theorem cut_rel {w : W} {H : Hp} {us : List U} {vs : List V} (r : RUs a.K a.cls w H us vs) (l h : Option Int) : RUs a.K a.cls w H (cutU us l h) (cutV vs l h) := by
  unfold cutU cutV
  rw [r.length]
  exact (r.drop _).take _
theorem cut_all {vs : List V} {l h : Option Int} (c : HT.sIx vs.length 0 l = 0 ∧ HT.sIx vs.length vs.length h = vs.length) {us : List U} (hl : us.length = vs.length) : cutU us l h = us := by
  unfold cutU
  rw [hl, c.1, c.2, List.drop_zero, Nat.sub_zero, ← hl, List.take_length]
def rSlE (K : PySem.W.Frag) : V → Option Int → Option Int → Hp → VK → Prop := fun x l h H Q => rSlL K x l h H Q ∨ rSlA K x l h H Q
theorem cut_spec {w : W} {s : S} {σ : L2.St} {H : Hp} {h : Hd} {x : V} {l u : Option Int} {z : U} {Q : VK} (R : Rel a w s.env s.hp σ H) (q : HdOk a σ w H h x) (e : cutH s h l u = some z) (k : Out a w σ H s (relU a) z Q) : rSlE a.K x l u H Q := by
  have lists : ∀ us, seqOf s h = some (false, us) → z = .lst (cutU us l u) → rSlE a.K x l u H Q := fun us e1 e2 => by
    subst e2
    obtain ⟨p, vs, rfl, r, hs⟩ := seq_spec R q e1
    refine .inl ⟨p, vs, rfl, hs, fun p' hp => ?_⟩
    have st := Stp.new (o := .lst (cutV vs l u)) R hp
    exact k _ _ _ st (R.new hp) (.lst (.inr rfl) upd_same ((cut_rel r l u).mono st))
  unfold cutH at e
  cases h with
  | sl i =>
    simp only at e
    cases e1 : seqOf s (.sl i) with
    | none => rw [e1] at e; cases e
    | some z =>
      obtain ⟨t, us⟩ := z
      rw [e1] at e
      cases t with
      | true => cases e
      | false => cases e; exact lists us e1 rfl
  | u v =>
    by_cases ht : ∃ us, v = .tup us
    · obtain ⟨us, rfl⟩ := ht
      simp only at e
      cases e
      have q' : RU a.K a.cls w H (.tup us) x := q
      cases q' with
      | @tup p _ vs f h1 r =>
        refine .inr ⟨p, vs, rfl, SqT.of h1, fun c => ?_, fun c p' hp => ?_⟩
        · rw [cut_all c r.length] at k
          exact k w H _ Stp.refl R (.tup f h1 r)
        · have st := Stp.new (o := .tup (cutV vs l u)) R hp
          exact k _ _ _ st (R.new hp) (.tup (.inr rfl) upd_same ((cut_rel r l u).mono st))
    · cases v with
      | tup us => exact absurd ⟨us, rfl⟩ ht
      | _ =>
        simp only at e
        split at e
        · rename_i us e1
          cases e
          exact lists us e1 rfl
        · cases e
theorem se_sl (hK : X.K = a.K) (h : SH X a Φ e mh) (hl : SP X a Φ lo ml) (hu : SP X a Φ hi mu) : SE X a Φ (.Subscript e (.Slice lo hi none p2) pos) (eSl mh ml mu) :=
  PE.imp (pe_slice (SlR.or sl_list sl_tupA) h hl hu) fun σ H Q q => TR.one q fun w H s hd x rx k => Sat.bndT (r1 := relP) k fun w1 H1 s1 l l' st e1 k1 => Sat.bndT (r1 := relP) k1 fun w2 H2 s2 u u' st2 e2 k2 => by
    have e1 : l = l' := e1
    have e2 : u = u' := e2
    subst e1 e2
    obtain ⟨z, e3, R, k3⟩ := Sat.lk k2
    rw [hK]
    exact cut_spec R (rx.mono (st.trans st2)) e3 k3
end
/-! ### a chain as a test -/
section
variable {X : Cx} {a : Act} {Φ : Phi} {e1 e2 e3 : Expr} {m1 m2 m3 : M U} {pos : Pos}
theorem st_chain (hK : X.K = a.K) (hu : X.A.units + 65 < cLine) (o o' : COp) (h1 : SE X a Φ e1 m1) (h2 : SE X a Φ e2 m2) (h3 : SE X a Φ e3 m3) (hm : lastMarks [copOf o, copOf o'] [e2, e3] = false) : STt X a Φ (.Compare e1 [copOf o, copOf o'] [e2, e3] pos) (tV (eChain o o' m1 m2 m3)) :=
  PT.imp (pt_chain (op_cop (by omega) o) (op_cop (by omega) o') h1 h2 h3 hm) fun σ H Q h => by
    have h' : TR a Φ (eChain o o' m1 m2 m3) (relU a) σ H fun x H1 => ∃ k, x = .bl k ∧ Q k H1 := TR.one h fun w H s u x rx q => by
      cases u <;> first | exact q.2.elim | skip
      cases rx
      exact ⟨_, rfl, Out.now (Sat.ret q) q.1 rfl⟩
    exact chain_imp hK o o' h'
end
end EL
set_option Elab.async false
set_option linter.all false
set_option maxRecDepth 100000
/-! ED7: isinstance, d.get. -/
namespace EL
open PySem PySem.Spec PyProof.Rows L2

def typU : U → Option String
  | .non => some "NoneType"
  | .bl _ => some "bool"
  | .int _ => some "int"
  | .str _ => some "str"
  | .tup _ => some "tuple"
  | .lst _ => some "list"
  | .scr _ => some "list"
  | .dic false _ => some "dict"
  | _ => none
def isiK : List String := ["int", "bool", "tuple", "str", "list"]
def isiB (t k : String) : Option Bool := if isiK.contains k = true then some (decide (t = k) || (decide (t = "bool") && decide (k = "int"))) else none
def eIsi (k : String) (m : M U) : M U := bnd m fun u => ofO (((typU u).bind fun t => isiB t k).map U.bl)
def isiAll : Bool := ["NoneType", "bool", "int", "str", "tuple", "list", "dict"].all fun t => isiK.all fun k => decide (kitB t k = isiB t k)
theorem isiAll_ok : isiAll = true := by decide +kernel
theorem isi_kit {t k : String} {b : Bool} (ht : t ∈ ["NoneType", "bool", "int", "str", "tuple", "list", "dict"]) (h : isiB t k = some b) : kitB t k = some b := by
  have hk : k ∈ isiK := by
    unfold isiB at h
    split at h
    · rename_i z; simpa using z
    · cases h
  have z := isiAll_ok
  unfold isiAll at z
  simp only [List.all_eq_true] at z
  have q := of_decide_eq_true (z t ht k hk)
  rw [q, h]
theorem typ_spec {a : Act} {w : W} {H : Hp} {u : U} {x : V} {t : String} (r : RU a.K a.cls w H u x) (e : typU u = some t) : t ∈ ["NoneType", "bool", "int", "str", "tuple", "list", "dict"] ∧ TyX a.K H x (.type t) := by
  cases r with
  | non => cases e; exact ⟨by simp, .base .non⟩
  | bl b => cases e; exact ⟨by simp, .base (.bl b)⟩
  | int i => cases e; exact ⟨by simp, .base (.int i)⟩
  | str y => cases e; exact ⟨by simp, .base (.str y)⟩
  | tup f h _ => cases e; exact ⟨by simp, .base (.tup h)⟩
  | lst f h _ => cases e; exact ⟨by simp, .base (.lst h)⟩
  | dicK f h _ => cases e; exact ⟨by simp, .fDict h⟩
  | dicT f h _ => cases e
  | obj f h _ _ => cases e
  | ref h => cases e
  | scr f h =>
    cases e
    rcases h with h | ⟨o, h⟩
    · exact ⟨by simp, .base (.lst h)⟩
    · exact ⟨by simp, .base (.frz h)⟩
  | scrK h =>
    cases e
    rcases h H with h | ⟨o, its, n, h1, h2, _⟩
    · rcases h with h | ⟨o, h⟩
      · exact ⟨by simp, .base (.lst h)⟩
      · exact ⟨by simp, .base (.frz h)⟩
    · exact ⟨by simp, .kList h1 h2⟩
section
variable {X : Cx} {a : Act} {Φ : Phi} {e e2 o : Expr} {m mk md : M U} {mh : M Hd} {k : Str} {ks : String} {p p2 apos pos : Pos}
theorem se_isi (hK : X.K = a.K) (hg : Gl X "isinstance") (hm : X.mg "isinstance" = none) (hgk : Gl X k) (hmk : X.mg k = none) (hv : bootBuiltins k = some (.type ks)) (hn1 : k ≠ "__name__") (hd1 : (k == ("__debug__" : Str)) = false) (h : SE X a Φ e m)
    (hs : starEach [e, .Name k p2] X.env = (false, eval e X.env) :: starEach [.Name k p2] X.env) (hs2 : starEach [.Name k p2] X.env = (false, eval (.Name k p2) X.env) :: starEach [] X.env) (hpl : (backTo pos (starEach [.Name k p2] X.env)).any (·.1) = false) : SE X a Φ (.Call (.Name "isinstance" p) [e, .Name k p2] [] pos) (eIsi ks m) :=
  PE.imp (pe_callB call_isi hg hm PyProof.Rows.boot_isinstance (pa_cons h (pa_cons (pe_bltn hgk hmk hv (show RelV (.ty ks) (.type ks) from rfl) hn1 hd1) pa_nil hs2) hs) (by decide) (by decide) hs hpl) fun σ H Q q => TR.one q fun w H s u x rx k => by
    obtain ⟨z, e1, R, k2⟩ := Sat.fin k
    cases ht : typU u with
    | none => rw [ht] at e1; cases e1
    | some t =>
      rw [ht] at e1
      simp only [Option.bind_some] at e1
      cases hb : isiB t ks with
      | none => rw [hb] at e1; cases e1
      | some b =>
        rw [hb] at e1; cases e1
        obtain ⟨h1, h2⟩ := typ_spec rx ht
        rw [hK]
        exact ⟨x, .ty ks, .type t, .type ks, b, rfl, .ty ks, h2, kit_ty (isi_kit h1 hb), Out.now k2 R (.bl b)⟩
/-! ### d.get(k, x) -/
def getDU (s : S) (h : Hd) (k d : U) : Option U := match dicOf s h with
  | some (t, kvs) => (look t kvs k).map fun o => o.getD d
  | none => none
def eGetD (mh : M Hd) (mk md : M U) : M U := bnd mh fun h => chk (fun s => dicOf s h) (bnd mk fun k => bnd md fun d => look' fun s => getDU s h k d)
theorem dcB_isD {w : W} {H : Hp} {pp : Addr} {t : Bool} {us : List (U × U)} (d : DcB a.K a.cls w H pp t us) : IsD H pp := by
  cases d with
  | k h r => exact .inl ⟨_, h⟩
  | t h r => exact .inr ⟨_, h⟩
theorem se_getD (hu : X.A.units + 1 < cLine) (ho : SH X a Φ o mh) (hk : SE X a Φ e mk) (hd : SE X a Φ e2 md) (hm : M2 X o "get" apos e e2 pos) : SE X a Φ (.Call (.Attribute o "get" apos) [e, e2] [] pos) (eGetD mh mk md) :=
  PE.imp (pe_dget2 hu ho hk hd hm) fun σ H Q q => TR.one q fun w H s h x rx k => by
    obtain ⟨⟨tk, e1⟩, k⟩ := Sat.chk k
    obtain ⟨t, kvs⟩ := tk
    obtain ⟨pp, rfl, d⟩ := dic_spec k.1 rx e1
    refine ⟨pp, rfl, dcB_isD d, Sat.bndT k fun w1 H1 s1 ku y st ry k1 => Sat.bndT k1 fun w2 H2 s2 du z st2 rz k2 => ?_⟩
    obtain ⟨v, e3, R, k3⟩ := Sat.lk k2
    have rx2 := rx.mono (st.trans st2)
    unfold getDU at e3
    cases e4 : dicOf s2 h with
    | none => rw [e4] at e3; cases e3
    | some tk2 =>
      obtain ⟨t2, kvs2⟩ := tk2
      rw [e4] at e3
      obtain ⟨pp2, ep, d2⟩ := dic_spec k2.1 rx2 e4
      cases ep
      cases e5 : look t2 kvs2 ku with
      | none => simp only [e5] at e3; cases e3
      | some oo =>
        simp only [e5] at e3
        cases e3
        obtain ⟨ov, g1, g2⟩ := look_spec d2 (ry.mono st2) e5
        refine ⟨ov, g1, ?_⟩
        cases oo with
        | none =>
          cases ov with
          | none => exact k3 _ _ _ Stp.refl R rz
          | some _ => exact g2.elim
        | some u =>
          cases ov with
          | none => exact g2.elim
          | some v => exact k3 _ _ _ Stp.refl R g2
end
end EL
set_option Elab.async false
set_option linter.all false
set_option maxRecDepth 100000
set_option maxHeartbeats 2000000
/-! ED8: enumerate over a tuple. -/
namespace EL
open PySem PySem.Spec PyProof.Rows L2

theorem meets_enum1 {v : Value} {o : Obj} {H : Heap → Prop} (B : Begins v o H) :
    Meets (Builtin.«enumerate.__new__» ⟨[.type "enumerate", v], []⟩) (fun _ R s => H s.heap ∧
      R (.ok (.ret (.ref (s.heap.push o).objs.size))) { s with heap := (s.heap.push o).push { cls := .type "enumerate", data := .fields #[.none, .bool false, .ref s.heap.objs.size, rawInt 0, .none, .none] } }) :=
  .of_wp fun prog w A R s h => by
    obtain ⟨hp, g, d, tk, os⟩ := s; obtain ⟨h1, h⟩ := h
    have hsub := sub_enumerate
    have q1 : ∀ {A' : Around} {E : Value → Shared → Prop} {Q : Value → Shared → Prop}, Q (.ref hp.objs.size) ⟨(hp.push o), g, d, tk, os⟩ → wpAny (model prog w) A' (pyIter v) Q E ⟨hp, g, d, tk, os⟩ :=
      fun q => B.iter prog w _ _ ⟨hp, g, d, tk, os⟩ _ h1 q
    wp_walk using q1
    refine wpAny_stack_any fun st => wpAny_pure ?_
    split
    · rename_i c _ _ _ _ _
      cases (c == Value.type "enumerate")
      · wp_walk using q1
        exact ⟨_, rfl, h⟩
      · wp_walk using q1
        exact ⟨_, rfl, h⟩
    · wp_walk using q1
      exact ⟨_, rfl, h⟩
section
variable {prog : Program} {w : World} {A : Around} {E : Value → Shared → Prop} {s : Shared}
theorem enum1_begins {v : Value} {o : Obj} {H : Heap → Prop} {Q : Value → Shared → Prop} (B : Begins v o H) (h1 : H s.heap)
    (h : ∀ h', IsEnum h' (s.heap.objs.size + 1) s.heap.objs.size 0 .none → h'.get? s.heap.objs.size = some o → h'.objs.size = s.heap.objs.size + 2 →
      (∀ b o, s.heap.get? b = some o → h'.get? b = some o) → Q (.ref (s.heap.objs.size + 1)) { s with heap := h' }) : wpAny (model prog w) A (call (.type "enumerate") [v]) Q E s := by
  refine callType_new F.called_enumerate (by decide) (F.typeCall_enumerate_1 _) (F.newCall_enumerate_1 _) (fun obj => F.args_object_init_2 obj _) F.entry_enumerate_new (meets_enum1 B) ⟨h1, ?_⟩
  have hz : (s.heap.push o).objs.size = s.heap.objs.size + 1 := Heap.size_push ..
  show _ ∧ _
  rw [hz]
  have he : IsEnum ((s.heap.push o).push { cls := .type "enumerate", data := .fields #[.none, .bool false, .ref s.heap.objs.size, rawInt 0, .none, .none] }) (s.heap.objs.size + 1) s.heap.objs.size 0 .none := by
    have := Heap.get?_push_size (s.heap.push o) (o := { cls := .type "enumerate", data := .fields #[.none, .bool false, .ref s.heap.objs.size, rawInt 0, .none, .none] }) rfl
    rw [hz] at this; exact this
  exact ⟨⟨_, he, rfl⟩, h _ he (Heap.get?_push_of_some _ (Heap.get?_push_size _ B.free)) (by rw [Heap.size_push, hz]) fun b o x => Heap.get?_push_of_some _ (Heap.get?_push_of_some _ x)⟩
end
/-- the tuple at a, each item in a new pair with its number -/
def ItET (K : PySem.W.Frag) (a : Addr) : It :=
  ⟨fun i H => ∃ (xs : List V) (x : V), SqT K H a xs ∧ xs[i]? = some x, fun i H v H' => ∃ T x, v = .ref T ∧ H T = none ∧ H' = upd H T (.tup [.int (i : Nat), x]) ∧ ∀ xs, SqT K H a xs → xs[i]? = some x, fun i H => ∃ xs : List V, SqT K H a xs ∧ xs.length = i⟩
theorem turn_enumT {P : Program} {w : World} {K : PySem.W.Frag} {elts : List Expr} {kk : Nat} {tpos : Pos} (a e it : Addr) (hae : a ≠ e) (hai : a ≠ it) :
    Turn P w K (.Tuple elts kk tpos) (ItET K a) [e, it] e (fun i h => (∃ old, IsEnum h e it ((i : Nat) : Int) old) ∧ h.IsTupleIter it a i ∧ e ≠ it) where
  mem := by simp
  obj := fun i h st b hb => by
    obtain ⟨⟨old, he⟩, ⟨o, ho, hc, hd⟩, _⟩ := st
    have e' : b = e ∨ b = it := by simpa using hb
    rcases e' with z | z
    · rw [z]; exact ⟨_, he, fun v q => nomatch q⟩
    · rw [z]; exact ⟨o, ho, fun v q => by rw [hd] at q; cases q⟩
  keep := fun i h h' st k => let ⟨⟨old, he⟩, hi, hne⟩ := st; ⟨⟨old, k e (by simp) _ he⟩, hi.at fun o q => k it (by simp) o q, hne⟩
  item := by
    intro X hP hw hK hc i pins s σ H E I hf st hg
    subst hP hw hK
    obtain ⟨⟨old, he⟩, hit, hne⟩ := st
    obtain ⟨xs, x, hq, hx⟩ := hg
    obtain ⟨its, rv, p, hz⟩ := I.tuple hq
    obtain ⟨u, hu, ru⟩ := rv.get hx
    have hel : e < s.heap.objs.size := Heap.lt_size he
    have hil : it < s.heap.objs.size := by obtain ⟨_, q, _⟩ := hit; exact Heap.lt_size q
    have hlt : i < its.toArray.size := by rw [List.size_toArray]; exact (List.getElem?_eq_some_iff.mp hu).1
    refine wpAny_pyNext_enum_itemD (Draws.tuple (A := X.A.in1) (I.ok.hd hc) it a hai its.toArray) he ⟨hit, p⟩ hlt hne (by simp [hne, Ne.symm hae]) fun y h' tk hy ho hit' hT hsz hk => ?_
    have ey : y = u := by
      have hy' : its.toArray[i]? = some y := hy
      rw [show its.toArray[i]? = its[i]? by simp, hu] at hy'
      exact (Option.some.inj hy').symm
    subst ey
    refine ⟨_, rfl, wpAny_letOwnedTupleGo_enum (s := { s with heap := h', toks := tk + 1 }) ho fun h'' he' sb => ?_⟩
    have hT2 : h''.get? s.heap.objs.size = some { cls := .type "tuple", data := .seq #[.int i tk, y] } := (sb.2 _ (Nat.ne_of_gt hel)).trans hT
    have new : ObjOk X.prog X.w (upd H s.heap.objs.size (.tup [.int (i : Nat), x])) h'' s.heap.objs.size (.tup [.int (i : Nat), x]) :=
      ⟨by show 2 ≤ sizeLine; decide, [.int i tk, y], .cons ⟨_, rfl⟩ (.cons ru .nil), ⟨_, hT2, rfl, _, rfl⟩⟩
    have I1 : Inv X pins σ (upd H s.heap.objs.size (.tup [.int (i : Nat), x])) { s with heap := h'', toks := tk + 1 } :=
      I.turnedNew (ch := [e, it]) (fun b ob hb q => (sb.2 b (fun z => hb (by simp [z]))).trans (hk b ob (fun z => hb (by simp [z])) (fun z => hb (by simp [z])) q)) hf (Nat.le_refl _) new
    refine ⟨.ref s.heap.objs.size, _, I1, rfl, ⟨_, x, rfl, I.hok.fresh (Nat.le_refl _), rfl, fun ys hy => by rw [I.tuple_inj hy hq]; exact hx⟩, ⟨⟨y, ?_⟩, hit'.1.at fun o q => (sb.2 it (Ne.symm hne)).trans q, hne⟩, fun b hb => ?_⟩
    · have e1 : ((i + 1 : Nat) : Int) = (i : Int) + 1 := by omega
      rw [e1]; exact he'
    · have hb' : b < s.heap.objs.size := by
        have e' : b = e ∨ b = it := by simpa using hb
        rcases e' with z | z
        · rw [z]; exact hel
        · rw [z]; exact hil
      rw [upd_ne (Nat.ne_of_lt hb')]
      exact (hf b hb).1
  done := by
    intro X hP hw hK hc i pins s σ H E I hf st hg
    subst hP hw hK
    obtain ⟨⟨old, he⟩, hit, hne⟩ := st
    obtain ⟨xs, hq, hx⟩ := hg
    obtain ⟨its, rv, p, hz⟩ := I.tuple hq
    obtain ⟨f0, f1, f2, f3, f4, f5⟩ := hf it (by simp)
    have hl := rv.length
    have en : i = its.toArray.size := by rw [List.size_toArray]; omega
    subst en
    exact wpAny_pyNext_enum_endD (Draws.tuple (A := X.A.in1) (I.ok.hd hc) it a hai its.toArray) he ⟨hit, p⟩ fun h' eb => ⟨rfl, I.turned (t' := s.toks) (fun b o hb q => eb b o hb q) f0 f1 f3 f4 f5⟩
  self := fun A i s Q E st h => let ⟨⟨_, he⟩, _⟩ := st; wpAny_pyIter_enum he h
def iEnumB (K : PySem.W.Frag) (ta : TA) : TI := fun σ H R => ta σ H fun vs H1 => ∃ a xs, vs = [.ref a] ∧ ((SqL K H1 a xs ∧ R (Ite K a) H1) ∨ (SqT K H1 a xs ∧ R (ItET K a) H1))
theorem pi_enumB {X : Cx} {e : Expr} {ta : TA} {p pos tpos : Pos} {elts : List Expr} {kk : Nat} (hg : Gl X "enumerate") (hm : X.mg "enumerate" = none) (ha : PA X [e] ta) (hs : starEach [e] X.env = [(false, eval e X.env)]) :
    PI X (.Tuple elts kk tpos) (.Call (.Name "enumerate" p) [e] [] pos) (iEnumB X.K ta) := by
  refine ⟨fun pins s σ H R I h => ?_⟩
  refine Call_ (ld_blt I hg hm boot_enumerate (PyProof.Rows.callWith_type1 (thn (ha.run pos pins s σ H _ I h) fun us s1 ⟨vs, H1, I1, r1, q1⟩ => ?_) hs rfl))
  obtain ⟨a, xs, ex, q1⟩ := q1
  subst ex
  have fresh : ∀ b ∈ [s1.heap.objs.size + 1, s1.heap.objs.size], FpOk X pins H1 b := fun b hb => by
    have e' : b = s1.heap.objs.size + 1 ∨ b = s1.heap.objs.size := by simpa using hb
    have hle : s1.heap.objs.size ≤ b := by
      rcases e' with z | z
      · rw [z]; exact Nat.le_add_right _ _
      · rw [z]; exact Nat.le_refl _
    exact I1.fpOk hle (I1.hok.fresh hle)
  cases r1 with
  | cons r rr =>
    cases rr
    cases r
    rcases q1 with ⟨hq, q⟩ | ⟨hq, q⟩
    · obtain ⟨its, rv, p', hz⟩ := I1.list hq
      refine call_enumerate_list p'.isList fun h' he hit hsz hk => wpAny_pyIter_enum he ?_
      have I2 : Inv X pins σ H1 { s1 with heap := h' } := I1.kept (t' := s1.toks) hk
      exact ⟨s1.heap.objs.size + 1, [s1.heap.objs.size + 1, s1.heap.objs.size], _, _, H1, rfl, I2, turn_enum a (s1.heap.objs.size + 1) s1.heap.objs.size, ⟨⟨.none, he⟩, hit, Nat.succ_ne_self _⟩, fresh, q⟩
    · obtain ⟨its, rv, p', hz⟩ := I1.tuple hq
      have hlt : a < s1.heap.objs.size := by obtain ⟨o, ho, _⟩ := id p'; exact Heap.lt_size ho
      refine enum1_begins (begins_tuple a its.toArray) p' fun h' he hit hsz hk => wpAny_pyIter_enum he ?_
      have I2 : Inv X pins σ H1 { s1 with heap := h' } := I1.kept (t' := s1.toks) hk
      exact ⟨s1.heap.objs.size + 1, [s1.heap.objs.size + 1, s1.heap.objs.size], _, _, H1, rfl, I2, turn_enumT a (s1.heap.objs.size + 1) s1.heap.objs.size (Nat.ne_of_lt (Nat.lt_succ_of_lt hlt)) (Nat.ne_of_lt hlt), ⟨⟨.none, he⟩, ⟨_, hit, rfl, rfl⟩, Nat.succ_ne_self _⟩, fresh, q⟩
/-! ### E's side -/
def numU (us : List U) : List U := us.zipIdx.map fun e => .tup [.int (e.2 : Nat), e.1]
def iEnumU (m : M U) : M (List U) := bnd m fun u => ofO ((itemsU u).map numU)
theorem num_get {us : List U} {i : Nat} {u : U} (h : us[i]? = some u) : (numU us)[i]? = some (.tup [.int (i : Nat), u]) := by
  unfold numU
  rw [List.getElem?_map, List.getElem?_zipIdx, h]
  simp
theorem num_len {us : List U} : (numU us).length = us.length := by unfold numU; simp
section
variable {a : Act} {us : List U} {vs : List V} {p : Addr} {w : W} {H : Hp}
theorem walkU_enumL (h : ∀ (w' : W) (H' : Hp), Stp w H w' H' → SqL a.K H' p vs) (r : RUs a.K a.cls w H us vs) : WalkU a (numU us) (Ite a.K p) w H := by
  have hl := r.length
  refine ⟨fun H' => SqL a.K H' p vs, fun i H1 x H2 => ∃ T y, x = .ref T ∧ H1 T = none ∧ H2 = upd H1 T (.tup [.int (i : Nat), y]) ∧ vs[i]? = some y, ⟨fun i H1 hi g => ?_, fun H1 g => ⟨vs, g, by rw [num_len, hl]; exact Nat.le_refl _⟩, fun i H1 x H2 hi g y => ?_⟩, h, fun i H1 x H2 hi hy b w1 env hp σ hK hc st R => ?_⟩
  · rw [num_len, hl] at hi
    exact ⟨vs, vs[i], g, List.getElem?_eq_getElem hi⟩
  · obtain ⟨T, y, e1, e2, e3, e4⟩ := y
    exact ⟨T, y, e1, e2, e3, e4 vs g⟩
  · obtain ⟨T, y, rfl, e2, rfl, e4⟩ := hy
    obtain ⟨u, h1, h2⟩ := r.get' e4
    have st2 := Stp.new (o := .tup [.int (i : Nat), y]) R e2
    exact ⟨_, _, st2, R.new e2, num_get h1, .tup (.inr rfl) upd_same (.cons (.int _) (.cons (h2.mono (st.trans st2)) .nil))⟩
theorem walkU_enumT (h : ∀ (w' : W) (H' : Hp), Stp w H w' H' → SqT a.K H' p vs) (r : RUs a.K a.cls w H us vs) : WalkU a (numU us) (ItET a.K p) w H := by
  have hl := r.length
  refine ⟨fun H' => SqT a.K H' p vs, fun i H1 x H2 => ∃ T y, x = .ref T ∧ H1 T = none ∧ H2 = upd H1 T (.tup [.int (i : Nat), y]) ∧ vs[i]? = some y, ⟨fun i H1 hi g => ?_, fun H1 g => ⟨vs, g, by rw [num_len, hl]⟩, fun i H1 x H2 hi g y => ?_⟩, h, fun i H1 x H2 hi hy b w1 env hp σ hK hc st R => ?_⟩
  · rw [num_len, hl] at hi
    exact ⟨vs, vs[i], g, List.getElem?_eq_getElem hi⟩
  · obtain ⟨T, y, e1, e2, e3, e4⟩ := y
    exact ⟨T, y, e1, e2, e3, e4 vs g⟩
  · obtain ⟨T, y, rfl, e2, rfl, e4⟩ := hy
    obtain ⟨u, h1, h2⟩ := r.get' e4
    have st2 := Stp.new (o := .tup [.int (i : Nat), y]) R e2
    exact ⟨_, _, st2, R.new e2, num_get h1, .tup (.inr rfl) upd_same (.cons (.int _) (.cons (h2.mono (st.trans st2)) .nil))⟩
end
theorem si_enum {X : Cx} {a : Act} {Φ : Phi} {e : Expr} {m : M U} {pp pos tpos : Pos} {elts : List Expr} {kk : Nat} (hK : X.K = a.K) (hg : Gl X "enumerate") (hm : X.mg "enumerate" = none) (h : SE X a Φ e m) (hs : starEach [e] X.env = (false, eval e X.env) :: starEach [] X.env) :
    SI X a Φ (.Tuple elts kk tpos) (.Call (.Name "enumerate" pp) [e] [] pos) (iEnumU m) :=
  PI.imp (pi_enumB hg hm (pa_cons h pa_nil hs) hs) fun σ H R q => TR.one q fun w H s u x rx k => by
    obtain ⟨z, e1, R', k2⟩ := Sat.fin k
    rw [hK]
    cases ht : itemsU u with
    | none => rw [ht] at e1; cases e1
    | some us =>
      rw [ht] at e1
      cases e1
      cases u <;> first | (cases ht; done) | skip
      · cases ht
        cases rx with
        | tup f1 h1 r1 => exact ⟨_, _, rfl, .inr ⟨SqT.of h1, Out.now k2 R' (walkU_enumT (fun w' H' st => SqT.of ((st.H _ f1).trans h1)) r1)⟩⟩
      · cases ht
        cases rx with
        | lst f1 h1 r1 => exact ⟨_, _, rfl, .inl ⟨.inl (.inl h1), Out.now k2 R' (walkU_enumL (fun w' H' st => .inl (.inl ((st.H _ f1).trans h1))) r1)⟩⟩
      · cases ht
        cases rx with
        | scr f1 h1 => exact ⟨_, _, rfl, .inl ⟨.inl h1, Out.now k2 R' (walkU_enumL (fun w' H' st => .inl (rd_step (st.H _ f1) h1)) (RUs.of_ints _))⟩⟩
        | scrK h1 => exact ⟨_, _, rfl, .inl ⟨h1 H, Out.now k2 R' (walkU_enumL (fun w' H' st => h1 H') (RUs.of_ints _))⟩⟩
end EL
set_option Elab.async false
set_option linter.all false
set_option maxRecDepth 100000
/-! ED9: while. -/
namespace EL
open PySem PySem.Spec PyProof.Rows L2

def whileF (t : M Bool) (b : M Fl) : Nat → M Fl
  | 0 => fail
  | n + 1 => bnd t fun c => if c = true then bnd b fun f => (match f with
    | .nx => whileF t b n
    | .ct => whileF t b n
    | .bk => ret .nx
    | .rt v => ret (.rt v)) else ret .nx
def sWhile (t : M Bool) (b : M Fl) : M Fl := whileF t b 1000000
section
variable {X : Cx} {a : Act} {Φ : Phi} {c : Expr} {body : List Stmt} {t : M Bool} {b : M Fl} {pos : Pos}
theorem ss_while (hp : PassesOwn (model X.prog X.w) X.A X.env X.xe) (hc : STt X a Φ c t) (hb : SB X a Φ body b) : SS X a Φ (.While c body [] pos) (sWhile t b) :=
  PS.imp (ps_while hp hc hb) fun D σ H q => by
    refine ⟨fun m σ H => ∃ w s, SatS a Φ w σ H s (whileF t b m) D, ⟨1000000, q⟩, fun m σ H ⟨w, s, h⟩ => ?_⟩
    cases m with
    | zero => exact h.2.elim
    | succ m =>
      refine TSs.one (r1 := relB) (D := D) ⟨w, s, h⟩ fun w1 H1 s1 x y e k => ?_
      have e : x = y := e
      subst e
      cases x with
      | false => rw [if_neg Bool.false_ne_true] at k ⊢; exact SatS.here k
      | true =>
        rw [if_pos rfl] at k ⊢
        refine ⟨fun σ' H' => ∃ w s, SatS a Φ w σ' H' s (whileF t b m) D, fun σ' H' h' => ⟨m, Nat.lt_succ_self m, h'⟩, w1, s1, SatS.thenF k fun fl w' σ' H2 s' st' h' => ?_⟩
        cases fl with
        | nx => exact ⟨w', s', h'⟩
        | ct => exact ⟨w', s', h'⟩
        | bk => exact h'.2 w' H2 σ' Stp.refl h'.1
        | rt v => exact h'.2 w' H2 σ' Stp.refl h'.1
end
end EL
set_option Elab.async false
set_option linter.all false
set_option maxRecDepth 100000
/-! ED10: == of dicts with tuple keys (HandS.DictEq's proof, turned to keys that lie in the heap). -/
namespace EL
open PySem PySem.W PySem.Calls PyProof.Rows PyProof.V PySem.Spec
section
variable {prog : Program} {w : World} {K : Type} [DecidableEq K] {knd : HeapKind prog w K} {A : Around} {E : Value → Shared → Prop} {s : Shared}
inductive HitsH {K : Type} (prog : Program) (w : World) (A : Around) (s : Shared) (xb : List (K × Addr × Value)) : List (K × Addr × Value) → Bool → Prop
  | nil : HitsH prog w A s xb [] true
  | miss {k : K} {a : Addr} {v : Value} {r : List (K × Addr × Value)} : (∀ (j : Nat) (p : Addr × Value), xb[j]? ≠ some (k, p)) → HitsH prog w A s xb ((k, a, v) :: r) false
  | hit {k : K} {a : Addr} {v : Value} {r : List (K × Addr × Value)} {j : Nat} {p : Addr × Value} {e b : Bool} : xb[j]? = some (k, p) → SeqAt.EqP prog w A s v p.2 e → HitsH prog w A s xb r b → HitsH prog w A s xb ((k, a, v) :: r) (e && b)
theorem HitsH.inv {xb : List (K × Addr × Value)} {k : K} {a : Addr} {v : Value} {r : List (K × Addr × Value)} {b : Bool} (h : HitsH prog w A s xb ((k, a, v) :: r) b) :
    ((∀ (j : Nat) (p : Addr × Value), xb[j]? ≠ some (k, p)) ∧ b = false) ∨ ∃ (j : Nat) (p : Addr × Value) (e b' : Bool), xb[j]? = some (k, p) ∧ SeqAt.EqP prog w A s v p.2 e ∧ HitsH prog w A s xb r b' ∧ b = (e && b') := by
  cases h with
  | miss hn => exact .inl ⟨hn, rfl⟩
  | hit hy he hr => exact .inr ⟨_, _, _, _, hy, he, hr, rfl⟩
theorem keys_inj {xs : List (K × Addr × Value)} (hn : (xs.map (·.1)).Nodup) {i j : Nat} {k : K} {p q : Addr × Value} (hi : xs[i]? = some (k, p)) (hj : xs[j]? = some (k, q)) : i = j ∧ p = q := by
  have h1 : (xs.map (·.1))[i]? = some k := by rw [List.getElem?_map, hi]; rfl
  have h2 : (xs.map (·.1))[j]? = some k := by rw [List.getElem?_map, hj]; rfl
  have e := nodup_at hn h1 h2
  subst e
  rw [hi] at hj
  cases hj
  exact ⟨rfl, rfl⟩
theorem samePairsH {nm : String} {a b : Addr} {xa xb : List (K × Addr × Value)} {r : Bool} {Q : Bool → Shared → Prop} (hu : knd.room A) (ha : (a == sysModules) = false) (hb : (b == sysModules) = false)
    (da : s.heap.DictOfH knd a xa) (db : s.heap.DictOfH knd b xb) (hits : xa.length = xb.length → HitsH prog w A s xb xa r) (h : Q (xa.length == xb.length && r) s) :
    wpAny (model prog w) A (Builtin.Dict.samePairs nm a b) Q E s := by
  obtain ⟨oa, es, ep, hoa, _, hda, hea, hia, hna⟩ := da
  obtain ⟨ob, es', ep', hob, _, hdb, heb, hib, hnb⟩ := db
  have hla : xa.length = es.size := (size_of_entries hea).symm
  have hlb : xb.length = es'.size := (size_of_entries heb).symm
  rw [hla, hlb] at h
  unfold Builtin.Dict.samePairs Builtin.Dict.showsAll
  rw [if_neg (show ¬ (a == sysModules) = true by rw [ha]; exact Bool.false_ne_true), if_neg (show ¬ (b == sysModules) = true by rw [hb]; exact Bool.false_ne_true)]
  refine wpAny_bind (wpAny_pure (wpAny_bind (wpAny_pure ?_)))
  refine wpAny_bind (wpAny_dictEntries hoa hda ?_)
  dsimp only
  refine wpAny_bind (wpAny_dictEntries hob hdb ?_)
  by_cases hsz : es.size = es'.size
  case neg =>
    rw [if_pos (by simpa using hsz)]
    have hbf : (es.size == es'.size) = false := by simpa using hsz
    rw [hbf, Bool.false_and] at h
    exact wpAny_bind (wpAny_rule (wpAny_pure h))
  case pos =>
    have h' : Q r s := by simpa [hsz] using h
    have hits' := hits (by rw [hla, hlb]; exact hsz)
    rw [if_neg (by rw [hsz]; simp)]
    refine wpAny_bind (wpAny_dictEpoch hoa hda ?_)
    refine wpAny_bind ?_
    rw [Std.Legacy.Range.forIn_eq_forIn_range']
    simp only [Std.Legacy.Range.size, Nat.sub_zero, Nat.add_sub_cancel, Nat.div_one]
    refine wpAny_forIn_list _
      (fun rest q s' => s' = s ∧ q = (none, ()) ∧ ∃ i, rest = List.range' i (es.size - i) ∧ i ≤ es.size ∧ HitsH prog w A s xb (xa.drop i) r)
      _ ?_ ?_ _ _ ⟨rfl, rfl, 0, by simp, Nat.zero_le _, hits'⟩
    · rintro x rest q s' ⟨rfl, rfl, i, hr, hi, hpre⟩
      have hlt : i < es.size := by
        rcases Nat.lt_or_ge i es.size with h | h
        · exact h
        · rw [Nat.sub_eq_zero_of_le h] at hr; simp at hr
      obtain ⟨rfl, hrest⟩ : x = i ∧ rest = List.range' (i + 1) (es.size - (i + 1)) := by
        have e : es.size - i = (es.size - (i + 1)) + 1 := by omega
        rw [e, List.range'_succ] at hr
        injection hr with h1 h2
        exact ⟨h1, h2⟩
      refine wpAny_bind (wpAny_dictEntries hoa hda ?_)
      rw [Array.getElem?_eq_getElem hlt]
      have hlt' : x < xa.length := by rw [hla]; exact hlt
      obtain ⟨k, ka, v, hkv⟩ : ∃ k ka v, xa[x] = (k, ka, v) := ⟨_, _, _, rfl⟩
      have hdrop : xa.drop x = (k, ka, v) :: xa.drop (x + 1) := by rw [← hkv]; exact List.drop_eq_getElem_cons hlt'
      have hent : es[x] = entryOfKey knd (k, ka, v) := by
        have q := entry_at hea x
        rw [Array.getElem?_eq_getElem hlt, List.getElem?_eq_getElem hlt', hkv] at q
        exact Option.some.inj q
      have hkey := hia (k, ka, v) (by rw [← hkv]; exact List.getElem_mem hlt')
      rw [hdrop] at hpre
      rw [hent]
      show wpAny _ _ (holding [Value.ref ka, v] _ >>= _) _ _ _
      refine wpAny_bind (wpAny_holding (wpAny_bind (wpAny_dictFind_heap (k := k) hu hkey hob hdb heb hib hnb (fun hnone => ?_) fun j p hj => ?_)))
      · rcases hpre.inv with ⟨_, er⟩ | ⟨j, p, _, _, hy, _⟩
        · rw [er] at h'
          refine wpAny_pure ?_
          show wpAny _ _ (if (!false) = true then _ else _) _ _ _
          rw [if_pos (by decide)]
          exact wpAny_pure (wpAny_pure h')
        · exact absurd hy (hnone j p)
      · have hjs : j < es'.size := by rw [← hlb]; exact (List.getElem?_eq_some_iff.mp hj).1
        have hent' : es'[j] = entryOfKey knd (k, p) := by
          have q := entry_at heb j
          rw [Array.getElem?_eq_getElem hjs, hj] at q
          exact Option.some.inj q
        refine wpAny_bind (wpAny_dictEntries hob hdb ?_)
        rw [Array.getElem?_eq_getElem hjs, hent']
        rcases hpre.inv with ⟨hn, _⟩ | ⟨j2, p2, e, b', hy, he, hrr, er⟩
        · exact absurd hj (hn j p)
        · obtain ⟨rfl, rfl⟩ := keys_inj hnb hj hy
          refine wpAny_holding (he _ _ ?_)
          cases e with
          | false =>
            rw [er, Bool.false_and] at h'
            show wpAny _ _ (if (!false) = true then _ else _) _ _ _
            rw [if_pos (by decide)]
            exact wpAny_pure (wpAny_pure h')
          | true =>
            rw [Bool.true_and] at er
            rw [← er] at hrr
            show wpAny _ _ (if (!true) = true then _ else _) _ _ _
            rw [if_neg (by decide)]
            refine wpAny_bind (wpAny_dictEpoch hoa hda ?_)
            rw [if_neg (by simp)]
            exact wpAny_pure ⟨rfl, rfl, x + 1, hrest, hlt, hrr⟩
    · rintro q s' ⟨rfl, rfl, i, hr, hi, hpre⟩
      have hin : i = es.size := by
        rcases Nat.lt_or_ge i es.size with h | h
        · have e : es.size - i = (es.size - (i + 1)) + 1 := by omega
          rw [e, List.range'_succ] at hr; exact nomatch hr
        · exact Nat.le_antisymm hi h
      refine wpAny_pure ?_
      rw [hin, ← hla, List.drop_length] at hpre
      cases hpre
      exact h'
theorem rcH_dicts {a b : Addr} {xa xb : List (K × Addr × Value)} {r : Bool} (hr : knd.room A.in1) (ha : (a == sysModules) = false) (hb : (b == sysModules) = false)
    (da : s.heap.DictOfH knd a xa) (db : s.heap.DictOfH knd b xb) (hu : A.units < cLine) (hits : xa.length = xb.length → HitsH prog w A.in1 s xb xa r) (E Q : Value → Shared → Prop) (h : Q (.bool (xa.length == xb.length && r)) s) : wpAny (model prog w) A (richCompare .Eq (.ref a) (.ref b)) Q E s := by
  refine wpAny_richCompare_same_room (op := .Eq) da.typeIs db.typeIs PySem.F.slot_dict_eq (wpAny_call_entry PySem.F.slot_dict_eq da.typeIs PySem.F.entry_dict_eq ?_ (PySem.F.args_dict_eq_2 _ _)) hu
  show wpAny _ _ (Builtin.Dict.dictSlotArgs "__eq__" ⟨[.ref a, .ref b], []⟩ >>= _) _ _ s
  refine wpAny_bind ?_
  unfold Builtin.Dict.dictSlotArgs
  refine wpAny_bind (wpAny_notOrdered_dict da.typeIs ?_)
  show wpAny _ _ (pure (Value.ref a, Value.ref b)) _ _ s
  refine wpAny_pure ?_
  refine wpAny_bind (wpAny_isInstance (T := "dict") db.typeIs PySem.F.sub_dict_dict ?_)
  simp only [Bool.not_true, Bool.false_eq_true, if_false]
  refine wpAny_bind (wpAny_pure (wpAny_bind (wpAny_pure ?_)))
  refine wpAny_bind (samePairsH hr ha hb da db hits ?_)
  refine wpAny_pure ⟨_, rfl, ?_, ?_⟩
  · exact fun x => nomatch x
  · simpa using h
end
end EL
set_option Elab.async false
set_option linter.all false
set_option maxRecDepth 100000
/-! ED11: == and != of dicts with tuple keys: the rule, E's words. -/
namespace EL
open PySem PySem.W PySem.Calls PyProof.Rows PyProof.V PySem.Spec L2
section
variable {prog : Program} {w : World} {K : Type} [DecidableEq K] {knd : HeapKind prog w K} {A : Around} {E : Value → Shared → Prop} {s : Shared}
theorem rcH_ne {a b : Addr} {xa xb : List (K × Addr × Value)} {r : Bool} (hr : knd.room A.in1) (ha : (a == sysModules) = false) (hb : (b == sysModules) = false)
    (da : s.heap.DictOfH knd a xa) (db : s.heap.DictOfH knd b xb) (hu : A.units < cLine) (hits : xa.length = xb.length → HitsH prog w A.in1 s xb xa r) (E Q : Value → Shared → Prop) (h : Q (.bool (!(xa.length == xb.length && r))) s) : wpAny (model prog w) A (richCompare .NotEq (.ref a) (.ref b)) Q E s := by
  refine wpAny_richCompare_same_room (op := .NotEq) da.typeIs db.typeIs PySem.F.slot_dict_ne (wpAny_call_entry PySem.F.slot_dict_ne da.typeIs PySem.F.entry_dict_ne ?_ (PySem.F.args_dict_ne_2 _ _)) hu
  show wpAny _ _ (Builtin.Dict.dictSlotArgs "__ne__" ⟨[.ref a, .ref b], []⟩ >>= _) _ _ s
  refine wpAny_bind ?_
  unfold Builtin.Dict.dictSlotArgs
  refine wpAny_bind (wpAny_notOrdered_dict da.typeIs ?_)
  show wpAny _ _ (pure (Value.ref a, Value.ref b)) _ _ s
  refine wpAny_pure ?_
  refine wpAny_bind (wpAny_isInstance (T := "dict") db.typeIs PySem.F.sub_dict_dict ?_)
  simp only [Bool.not_true, Bool.false_eq_true, if_false]
  refine wpAny_bind (wpAny_pure (wpAny_bind (wpAny_pure ?_)))
  refine wpAny_bind (samePairsH hr ha hb da db hits ?_)
  refine wpAny_pure ⟨_, rfl, ?_, ?_⟩
  · exact fun x => nomatch x
  · simpa using h
end
/-- which entries of the first dict the second one has -/
inductive HitT (K : PySem.W.Frag) (H : Hp) (ls : List (List L2.Key × V)) : List (List L2.Key × V) → Bool → Prop
  | nil : HitT K H ls [] true
  | miss {k : List L2.Key} {v : V} {r : List (List L2.Key × V)} : valV ls k = none → HitT K H ls ((k, v) :: r) false
  | hit {k : List L2.Key} {v u : V} {r : List (List L2.Key × V)} {d e : PyData} {b : Bool} : valV ls k = some u → Dp K H v d → Dp K H u e → SeqAt.shaped d = true → SeqAt.shaped e = true → HitT K H ls r b → HitT K H ls ((k, v) :: r) (PyData.eqv d e && b)
theorem kt_none {H : Hp} {k : List L2.Key} : ∀ {ls : List (List L2.Key × V)} {xb : List (List L2.Key × Addr × Value)}, KT H ls xb → valV ls k = none → ∀ (j : Nat) (p : Addr × Value), xb[j]? ≠ some (k, p) := by
  intro ls xb r
  unfold KT at r
  induction r with
  | nil => intro _ j p z; simp at z
  | @cons p q ps qs h t ih =>
    intro e j pp z
    by_cases hk : p.1 = k
    · rw [valV_pos hk] at e; cases e
    · rw [valV_neg hk] at e
      cases j with
      | zero => rw [List.getElem?_cons_zero] at z; cases z; exact hk h.1
      | succ j => rw [List.getElem?_cons_succ] at z; exact ih e j pp z
theorem kt_some {H : Hp} {k : List L2.Key} {u : V} : ∀ {ls : List (List L2.Key × V)} {xb : List (List L2.Key × Addr × Value)}, KT H ls xb → valV ls k = some u → ∃ (j : Nat) (p : Addr × Value), xb[j]? = some (k, p) ∧ RelV u p.2 := by
  intro ls xb r
  unfold KT at r
  induction r with
  | nil => intro e; cases e
  | @cons p q ps qs h t ih =>
    intro e
    by_cases hk : p.1 = k
    · rw [valV_pos hk] at e; cases e
      refine ⟨0, q.2, ?_, h.2.2⟩
      rw [List.getElem?_cons_zero, ← hk, h.1]
    · rw [valV_neg hk] at e
      obtain ⟨j, pp, h1, h2⟩ := ih e
      exact ⟨j + 1, pp, by rw [List.getElem?_cons_succ]; exact h1, h2⟩
theorem hitT_run {X : Cx} {pins : List (Addr × Obj)} {σ : L2.St} {H : Hp} {s : Shared} (I : Inv X pins σ H s) {A : Around} (hu : A.units + 64 < cLine) {ls : List (List L2.Key × V)} {xb : List (List L2.Key × Addr × Value)} (rb : KT H ls xb) :
    ∀ {ks : List (List L2.Key × V)} {xa : List (List L2.Key × Addr × Value)} {b : Bool}, KT H ks xa → HitT X.K H ls ks b → HitsH X.prog X.w A s xb xa b := by
  intro ks xa b ra
  unfold KT at ra
  induction ra generalizing b with
  | nil => intro h; cases h; exact .nil
  | @cons p q ps qs h t ih =>
    obtain ⟨k, ka, v⟩ := q
    obtain ⟨k', pv⟩ := p
    obtain ⟨h1, h2, h3⟩ := h
    cases h1
    intro hh
    cases hh with
    | miss e => exact .miss (kt_none rb e)
    | @hit _ _ u _ d d' b e h4 h5 h6 h7 h8 =>
      obtain ⟨j, pp, g1, g2⟩ := kt_some rb e
      obtain ⟨as, r1⟩ := Dp.reads I d _ _ h4 h3
      obtain ⟨bs, r2⟩ := Dp.reads I d' _ _ h5 g2
      exact .hit g1 (SeqAt.eqAt_reads d d' A s _ _ as bs r1 r2 (SeqAt.canLay_of_shaped h6) (SeqAt.canLay_of_shaped h7) (SeqAt.room_of_shaped h6 hu)).eqP (ih h8)
def rEqT (g : Bool → Bool) (K : PySem.W.Frag) : R2 := fun x y H Q => ∃ (p q : Addr) (ks ls : List (List L2.Key × V)) (b : Bool), x = .ref p ∧ y = .ref q ∧ Rd H p (.dT ks) ∧ Rd H q (.dT ls) ∧ (ks.length = ls.length → HitT K H ls ks b) ∧ Q (.bl (g (ks.length == ls.length && b))) H
theorem op_eqT {X : Cx} (hu : X.A.units + 65 < cLine) : OpR X (compareOp .Eq) (rEqT id X.K) := by
  intro pins s σ H x y v u Q I rx ry h
  obtain ⟨p, q, ks, ls, b, rfl, rfl, hp, hq, hh, k⟩ := h
  cases (show v = Value.ref p from rx)
  cases (show u = Value.ref q from ry)
  obtain ⟨_, ya, xa, ra, da⟩ := dt_rd I.hok hp
  obtain ⟨_, yb, xb, rb, db⟩ := dt_rd I.hok hq
  have la : ks.length = xa.length := Paired.length ra
  have lb : ls.length = xb.length := Paired.length rb
  refine rcH_dicts (r := b) ?_ ya yb da db (by omega) (fun e => hitT_run I (A := X.A.in1) (by show X.A.units + 1 + 64 < cLine; omega) rb ra (hh (by omega))) _ _ ?_
  · show X.A.units + 1 < cLine
    omega
  · rw [← la, ← lb]
    exact ⟨.bl _, H, I, rfl, k⟩
theorem op_neT {X : Cx} (hu : X.A.units + 65 < cLine) : OpR X (compareOp .NotEq) (rEqT not X.K) := by
  intro pins s σ H x y v u Q I rx ry h
  obtain ⟨p, q, ks, ls, b, rfl, rfl, hp, hq, hh, k⟩ := h
  cases (show v = Value.ref p from rx)
  cases (show u = Value.ref q from ry)
  obtain ⟨_, ya, xa, ra, da⟩ := dt_rd I.hok hp
  obtain ⟨_, yb, xb, rb, db⟩ := dt_rd I.hok hq
  have la : ks.length = xa.length := Paired.length ra
  have lb : ls.length = xb.length := Paired.length rb
  refine rcH_ne (r := b) ?_ ya yb da db (by omega) (fun e => hitT_run I (A := X.A.in1) (by show X.A.units + 1 + 64 < cLine; omega) rb ra (hh (by omega))) _ _ ?_
  · show X.A.units + 1 < cLine
    omega
  · rw [← la, ← lb]
    exact ⟨.bl _, H, I, rfl, k⟩
/-! ### E's words -/
/-- which entries the second dict has -/
def hitsU (ls : List (U × U)) : List (U × U) → Option Bool
  | [] => some true
  | (k, v) :: r => match look true ls k with
    | none => none
    | some none => some false
    | some (some u) => match eqU v u, hitsU ls r with
      | some d, some b => some (d && b)
      | _, _ => none
/-- a == b, dicts of tuple keys, or data -/
def eqH (s : S) (a b : Hd) : Option Bool := match dicOf s a, dicOf s b with
  | some (true, ks), some (true, ls) => if ks.length = ls.length then hitsU ls ks else some false
  | none, none => (match a, b with
    | .u x, .u y => eqU x y
    | _, _ => none)
  | _, _ => none
def eEqH (neg : Bool) (m1 m2 : M Hd) : M U := bnd m1 fun u => bnd m2 fun h => look' fun s => (eqH s u h).map fun b => U.bl (if neg = true then !b else b)
section
variable {a : Act} {X : Cx} {Φ : Phi} {e e1 e2 e3 : Expr} {m m1 m2 : M U} {mh mh1 mh2 : M Hd} {pos : Pos} {w : W} {H : Hp} {σ : L2.St}
theorem hitsU_spec {p : Addr} {ls : List (U × U)} {ls' : List (List L2.Key × V)} (h1 : Rd H p (.dT ls')) (h2 : RTs a.K a.cls w H ls ls') :
    ∀ {ks : List (U × U)} {ks' : List (List L2.Key × V)} {b : Bool}, RTs a.K a.cls w H ks ks' → hitsU ls ks = some b → HitT a.K H ls' ks' b
  | _, _, _, .nil, e => by cases e; exact .nil
  | _, _, b, .cons (k := k) (u := u) (v := v) (us := us) (vs := vs) r t, e => by
    unfold hitsU at e
    have g := RTs.val k h2
    rw [show look true ls (.tup (k.map kU)) = some ((ls.find? fun e => decide (toKT e.1 = some k)).map (·.2)) by simp [look, toKT, toKs_kU]] at e
    revert e g
    generalize (ls.find? fun e => decide (toKT e.1 = some k)).map (·.2) = o
    intro e g
    cases o with
    | none =>
      simp only at e
      cases e
      cases q : valV ls' k with
      | none => exact .miss q
      | some z => rw [q] at g; exact g.elim
    | some u2 =>
      simp only at e
      cases q : valV ls' k with
      | none => rw [q] at g; exact g.elim
      | some z =>
        rw [q] at g
        cases e1 : eqU u u2 with
        | none => simp only [e1] at e; cases e
        | some d0 =>
          cases e2 : hitsU ls us with
          | none => simp only [e1, e2] at e; cases e
          | some b0 =>
            simp only [e1, e2] at e
            cases e
            obtain ⟨d, d', g1, g2, g3, g4, rfl⟩ := eqU_spec r (show RU a.K a.cls w H u2 z from g) e1
            exact .hit q g1 g2 g3 g4 (hitsU_spec h1 h2 t e2)
def rEqA (neg : Bool) (K : PySem.W.Frag) : R2 := fun x y H Q => (if neg = true then rNeD K else rEqD K) x y H Q ∨ rEqT (fun b => if neg = true then !b else b) K x y H Q
theorem op_eqA {X : Cx} (hu : X.A.units + 65 < cLine) (neg : Bool) : OpR X (compareOp (copOf (if neg = true then .ne else .eq))) (rEqA neg X.K) := by
  cases neg with
  | false => exact (op_eqD (by omega)).or (op_eqT hu)
  | true => exact (op_neD (by omega)).or (op_neT hu)
theorem eqH_spec {s : S} (R : Rel a w s.env s.hp σ H) {neg : Bool} {h1 h2 : Hd} {b : Bool} {x y : V} {Q : VK} (rx : HdOk a σ w H h1 x) (ry : HdOk a σ w H h2 y) (e : eqH s h1 h2 = some b) (q : Q (.bl (if neg = true then !b else b)) H) : rEqA neg a.K x y H Q := by
  unfold eqH at e
  split at e
  · rename_i ks ls q1 q2
    obtain ⟨p1, rfl, d1⟩ := dic_spec R rx q1
    obtain ⟨p2, rfl, d2⟩ := dic_spec R ry q2
    cases d1 with
    | t f1 r1 =>
      cases d2 with
      | t f2 r2 =>
        rename_i ks' ls'
        have l1 := r1.length
        have l2 := r2.length
        by_cases hl : ks.length = ls.length
        · rw [if_pos hl] at e
          refine .inr ⟨p1, p2, ks', ls', b, rfl, rfl, f1, f2, fun _ => hitsU_spec f2 r2 r1 e, ?_⟩
          rw [show (ks'.length == ls'.length) = true by rw [beq_iff_eq]; omega, Bool.true_and]
          exact q
        · rw [if_neg hl] at e
          cases e
          refine .inr ⟨p1, p2, ks', ls', false, rfl, rfl, f1, f2, fun z => absurd z (by omega), ?_⟩
          rw [Bool.and_false]
          exact q
  · split at e
    · rename_i u v _ _
      obtain ⟨d, d', g1, g2, g3, g4, rfl⟩ := eqU_spec (show RU a.K a.cls w H u x from rx) (show RU a.K a.cls w H v y from ry) e
      refine .inl ?_
      cases neg with
      | false => exact ⟨d, d', g1, g2, g3, g4, q⟩
      | true => exact ⟨d, d', g1, g2, g3, g4, q⟩
    · cases e
  · cases e
theorem se_eqH (hK : X.K = a.K) (hu : X.A.units + 65 < cLine) (neg : Bool) (h1 : SH X a Φ e1 mh1) (h2 : SH X a Φ e2 mh2) : SE X a Φ (.Compare e1 [copOf (if neg = true then .ne else .eq)] [e2] pos) (eEqH neg mh1 mh2) :=
  PE.imp (pe_cmpR (op_eqA hu neg) h1 h2 (nobehind e2 (by cases neg <;> decide) (by cases neg <;> decide))) fun σ H Q h => TR.two (monoH a σ) h fun w H s u v x y rx ry q => by
    obtain ⟨z, e, R, k⟩ := Sat.lk q
    rw [hK]
    cases q : eqH s u v with
    | none => rw [q] at e; cases e
    | some b => rw [q] at e; cases e; exact eqH_spec R rx ry q (Out.now k R (.bl _))
theorem st_eqH (hK : X.K = a.K) (hu : X.A.units + 65 < cLine) (neg : Bool) (h1 : SH X a Φ e1 mh1) (h2 : SH X a Φ e2 mh2) : STt X a Φ (.Compare e1 [copOf (if neg = true then .ne else .eq)] [e2] pos) (tV (eEqH neg mh1 mh2)) :=
  PT.imp (pt_cmpR (op_eqA hu neg) h1 h2 (nobehind e2 (by cases neg <;> decide) (by cases neg <;> decide))) fun σ H Q h => by
    have h' : TR a Φ (eEqH neg mh1 mh2) (relU a) σ H fun x H1 => ∃ k, x = .bl k ∧ Q k H1 := TR.one h fun w H s u x rx q => by
      cases u <;> first | exact q.2.elim | skip
      cases rx
      exact ⟨_, rfl, Out.now (Sat.ret q) q.1 rfl⟩
    exact TR.two (monoH a σ) h' fun w H s u v x y rx ry q => by
      obtain ⟨z, e, R, k⟩ := Sat.lk q
      rw [hK]
      cases q : eqH s u v with
      | none => rw [q] at e; cases e
      | some b => rw [q] at e; cases e; exact eqH_spec (Q := fun x H' => ∃ k, x = .bl k ∧ Q k H') R rx ry q (Out.now k R (.bl _))
end
end EL
set_option Elab.async false
set_option linter.all false
set_option maxRecDepth 100000
/-! ED12: d.copy() of a dict with tuple keys of whole numbers. -/
namespace EL
open PySem PySem.W PySem.Calls PyProof.Rows PyProof.V PySem.Spec L2
/-- a key's hash, of whole numbers alone -/
def hashI : List L2.Key → Option (List Int)
  | [] => some []
  | .inl i :: r => (hashI r).map (hashInt i :: ·)
  | .inr _ :: _ => none
def hashT (k : List L2.Key) : Option Int := (hashI k).map fun hs => reduceHash (Builtin.Tuple.tupleHashOf hs)
theorem hashI_eq {w : World} : ∀ {k : List L2.Key} {hs : List Int}, hashI k = some hs → k.map (keyH w) = hs
  | [], _, e => by cases e; rfl
  | .inl i :: r, hs, e => by
    unfold hashI at e
    cases q : hashI r with
    | none => rw [q] at e; cases e
    | some g => rw [q] at e; cases e; rw [List.map_cons, hashI_eq q]; rfl
  | .inr _ :: _, _, e => by cases e
theorem hashT_eq {P : Program} {w : World} {k : List L2.Key} {i : Int} (e : hashT k = some i) : (tupleKind (mixKind P w)).hash k = i := by
  unfold hashT at e
  cases q : hashI k with
  | none => rw [q] at e; cases e
  | some g => rw [q] at e; cases e; show reduceHash (Builtin.Tuple.tupleHashOf (k.map (keyH w))) = _; rw [hashI_eq q]
/-- the keys' hashes -/
def hashesK : List (List L2.Key) → Option (List Int)
  | [] => some []
  | k :: r => match hashT k, hashesK r with
    | some i, some is => some (i :: is)
    | _, _ => none
theorem hashesK_eq {P : Program} {w : World} : ∀ {ks : List (List L2.Key)} {is : List Int}, hashesK ks = some is → ks.map (fun k => (tupleKind (mixKind P w)).hash k) = is
  | [], _, e => by cases e; rfl
  | k :: r, is, e => by
    unfold hashesK at e
    cases q : hashT k with
    | none => rw [q] at e; cases e
    | some i =>
      cases q2 : hashesK r with
      | none => rw [q, q2] at e; cases e
      | some g => rw [q, q2] at e; cases e; rw [List.map_cons, hashT_eq q, hashesK_eq q2]
def tDCopyT (td : TE) : TE := fun σ H Q => td σ H fun x H1 => ∃ (a : Addr) (ks : List (List L2.Key × V)) (hs : List Int), x = .ref a ∧ Rd H1 a (.dT ks) ∧ hashesK (ks.map (·.1)) = some hs ∧ hs.Nodup ∧ ∀ p, H1 p = none → Q (.ref p) (upd H1 p (.dT ks))
theorem pe_dcopyT {X : Cx} {o : Expr} {td : TE} {apos cpos : Pos} (ho : PE X o td) (hbase : attributeBase o "copy" X.env (eval o X.env) = eval o X.env := by rfl) (hline : (apos.endLine == cpos.line) = true := by rfl) : PE X (.Call (.Attribute o "copy" apos) [] [] cpos) (tDCopyT td) := by
  refine ⟨fun pins s σ H Q I h => ?_⟩
  refine wpAny_Call_method0_late hbase hline (thn (ho.run pins s σ H _ I h) fun u s1 ⟨x, H1, I1, rx, a, ks, hs, ex, hd, hh, hn, q1⟩ => ?_)
  subst ex
  obtain rfl : u = Value.ref a := rx
  obtain ⟨t1, t2, _⟩ := isD_at I1 (.inr ⟨_, hd⟩)
  refine ⟨"dict", _, PySem.F.plainAttrs_dict, PySem.F.slot_dict_copy, PySem.F.type_dict_copy, t1, t2, Calls.callWith_builtin rfl (PySem.evalArgs_none ?_)⟩
  obtain ⟨z, ya, xa, ra, da⟩ := dt_rd I1.hok hd
  have la : ks.length = xa.length := Paired.length ra
  have keys : xa.map (·.1) = ks.map (·.1) := by
    have all : ∀ {l : List (List L2.Key × V)} {m : List (List L2.Key × Addr × Value)}, KT H1 l m → m.map (·.1) = l.map (·.1) := by
      intro l m q
      unfold KT at q
      induction q with
      | nil => rfl
      | @cons p q ps qs hq t ih => rw [List.map_cons, List.map_cons, ih, hq.1]
    exact all ra
  have tups : ∀ x ∈ xa, H1 x.2.1 = some (.tup (x.1.map kV)) := by
    have all : ∀ {l : List (List L2.Key × V)} {m : List (List L2.Key × Addr × Value)}, KT H1 l m → ∀ x ∈ m, H1 x.2.1 = some (.tup (x.1.map kV)) := by
      intro l m q
      unfold KT at q
      induction q with
      | nil => intro x hx; exact nomatch hx
      | @cons p q ps qs hq t ih =>
        intro x hx
        rcases List.mem_cons.mp hx with e | hx
        · subst e; rw [← hq.1]; exact hq.2.1
        · exact ih x hx
    exact all ra
  refine call_copyH (knd := tupleKind (mixKind X.prog X.w)) ya da (by rw [← la]; exact z) (fun x hx => ?_) ?_ (fun h' kp x hx => ?_) fun h' dd kp => ?_
  · exact (key_of I1.hok (tups x hx)).typeIs
  · rw [show (xa.map fun x => (tupleKind (mixKind X.prog X.w)).hash x.1) = (xa.map (·.1)).map fun k => (tupleKind (mixKind X.prog X.w)).hash k by rw [List.map_map]; rfl, keys, hashesK_eq hh]
    exact hn
  · obtain ⟨o, its, n, g1, g2, g3, g4⟩ := key_of I1.hok (tups x hx)
    exact ⟨o, its, n, kp _ _ g1, g2, g3, g4⟩
  · have hp := I1.hok.fresh (Nat.le_refl s1.heap.objs.size)
    refine ⟨.ref s1.heap.objs.size, _, I1.laid (o := .dT ks) (t' := s1.toks) kp (Nat.le_refl _) ?_, rfl, q1 _ hp⟩
    obtain ⟨o, es, ep, h1, h2, h3, h4, h5, h6⟩ := dd
    refine ⟨z, beq_eq_false_iff_ne.mpr (Ne.symm (Nat.ne_of_lt I1.big)), xa, ?_, o, es, ep, h1, h2, h3, h4, h6⟩
    have all : ∀ {l : List (List L2.Key × V)} {m : List (List L2.Key × Addr × Value)}, KT H1 l m → KT (upd H1 s1.heap.objs.size (.dT ks)) l m := by
      intro l m q
      unfold KT at q ⊢
      induction q with
      | nil => exact .nil
      | @cons p q ps qs hq t ih =>
        refine .cons ⟨hq.1, ?_, hq.2.2⟩ ih
        rw [upd_ne fun z => by have := hq.2.1; rw [z, hp] at this; cases this]
        exact hq.2.1
    exact all ra
end EL
namespace EL
open PySem PySem.W PySem.Calls PyProof.Rows PyProof.V PySem.Spec L2
/-! ### E's word -/
def keysT : List (U × U) → Option (List (List L2.Key))
  | [] => some []
  | (k, _) :: r => match toKT k, keysT r with
    | some k, some ks => some (k :: ks)
    | _, _ => none
/-- the keys' hashes are apart -/
def apartU (kvs : List (U × U)) : Bool := match (keysT kvs).bind hashesK with
  | some hs => decide hs.Nodup
  | none => false
def copyU (s : S) (h : Hd) : Option SV := match dicOf s h with
  | some (true, kvs) => if apartU kvs = true then some (.od true kvs) else none
  | _ => none
def oDCopy (mh : M Hd) : M SV := bnd mh fun h => look' fun s => copyU s h
section
variable {a : Act} {X : Cx} {Φ : Phi} {o : Expr} {mh : M Hd} {apos cpos : Pos} {w : W} {H : Hp}
theorem keysT_eq : ∀ {us : List (U × U)} {ks : List (List L2.Key × V)}, RTs a.K a.cls w H us ks → keysT us = some (ks.map (·.1))
  | _, _, .nil => rfl
  | _, _, .cons (k := k) r t => by
    unfold keysT
    rw [keysT_eq t]
    simp [toKT, toKs_kU]
theorem so_dcopy (ho : SH X a Φ o mh) (hbase : attributeBase o "copy" X.env (eval o X.env) = eval o X.env) (hline : (apos.endLine == cpos.line) = true) : SO X a Φ (.Call (.Attribute o "copy" apos) [] [] cpos) (oDCopy mh) :=
  PE.imp (pe_dcopyT ho hbase hline) fun σ H Q q => TRO.one q fun w H s h x rx R k => by
    unfold look' at k
    dsimp only at k
    cases e : copyU s h with
    | none => rw [e] at k; exact k.elim
    | some sv =>
      rw [e] at k
      unfold copyU at e
      split at e
      · rename_i kvs q1
        by_cases hq : apartU kvs = true
        · rw [if_pos hq] at e
          cases e
          obtain ⟨p, rfl, d⟩ := dic_spec R rx q1
          cases d with
          | @t _ ks f r =>
            unfold apartU at hq
            rw [keysT_eq r] at hq
            simp only [Option.bind_some] at hq
            cases q2 : hashesK (ks.map (·.1)) with
            | none => rw [q2] at hq; cases hq
            | some hs =>
              rw [q2] at hq
              refine ⟨p, ks, hs, rfl, f, q2, of_decide_eq_true hq, fun p' hp => ?_⟩
              have st : Stp w H w (upd H p' (.dT ks)) := ⟨fun _ h => h, fun _ _ h => h, fun x hx => upd_ne fun z => R.frz x hx (by rw [z]; exact hp)⟩
              obtain ⟨P, st⟩ := R.pend (sv := .od true kvs) (o := .dT ks) hp rfl ⟨p', rfl, .dicT upd_same (r.mono st)⟩
              exact k _ _ _ st P
        · rw [if_neg hq] at e; cases e
      · cases e
end
end EL
set_option Elab.async false
set_option linter.all false
set_option maxRecDepth 100000
/-! ED13: list(x) as a list of a slot's own. -/
namespace EL
open PySem PySem.Spec PyProof.Rows L2
def oListOf (mh : M Hd) : M SV := bnd mh fun h => look' fun s => (seqOf s h).map fun z => SV.ol z.2
section
variable {a : Act} {X : Cx} {Φ : Phi} {e : Expr} {mh : M Hd} {pos p : Pos}
theorem so_listOf (hg : Gl X "list") (hm : X.mg "list" = none) (h : SH X a Φ e mh) (hK : X.K = a.K) (hs : starEach [e] X.env = (false, eval e X.env) :: starEach [] X.env) : SO X a Φ (.Call (.Name "list" p) [e] [] pos) (oListOf mh) :=
  PE.imp (pe_callTy call_list_of hg hm (by decide +kernel) (sa_one h hs) (by decide) (by decide) hs rfl) fun σ H Q h => TRO.one h fun w H s u x rx R k => by
    unfold look' at k
    dsimp only at k
    cases e1 : seqOf s u with
    | none => rw [e1] at k; exact k.elim
    | some z =>
      obtain ⟨t, us⟩ := z
      rw [e1] at k
      obtain ⟨q, vs, rfl, r, hs⟩ := seq_spec R rx e1
      rw [hK]
      refine ⟨q, vs, rfl, hs.or, fun l hl => ?_⟩
      have st : Stp w H w (upd H l (.lst vs)) := ⟨fun _ h => h, fun _ _ h => h, fun x hx => upd_ne fun z => R.frz x hx (by rw [z]; exact hl)⟩
      obtain ⟨P, st⟩ := R.pend (sv := .ol us) (o := .lst vs) hl rfl ⟨l, rfl, .lst upd_same (r.mono st)⟩
      exact k _ _ _ st P
end
end EL
set_option Elab.async false
set_option linter.all false
set_option maxRecDepth 100000
/-! ED14: any(within(x, y) for x in l), x a name of the block, y one of the def. -/
namespace EL
open PySem PySem.Spec PyProof.Rows L2

/-- the body: return a | b == b -/
def winBody : List Stmt → Option (Str × Str)
  | [.Return (some (.Compare (.BinOp (.Name a _) .BitOr (.Name b _) _) [.Eq] [.Name b' _] _)) _] => if b = b' then some (a, b) else none
  | _ => none
def winB (i j : Int) : Bool := Builtin.bitOr i j == j
/-- the def within, as the text has it -/
def WinOk (K : PySem.W.Frag) (mg : Str → Option Value) : Prop := ∃ (f : Addr) (d : He.DefD) (fd : FuncData) (a b : Str), mg "within" = some (.ref f) ∧ FunD K d.name d.qual d.params d.body d.scope [] [] f fd ∧ FnScope [a, b] [a, b] d.scope ∧
  winBody d.body = some (a, b) ∧ d.scope.names.lookup a = some .local ∧ d.scope.names.lookup b = some .local ∧ (a == ("__debug__" : Str)) = false ∧ (b == ("__debug__" : Str)) = false ∧ Binds K fd [a, b] []
theorem winBody_some {l : List Stmt} {a b : Str} (h : winBody l = some (a, b)) : ∃ p1 p2 p3 p4 p5 p6, l = [.Return (some (.Compare (.BinOp (.Name a p1) .BitOr (.Name b p2) p3) [.Eq] [.Name b p4] p5)) p6] := by
  unfold winBody at h
  split at h
  · split at h
    · rename_i e
      cases h; subst e
      exact ⟨_, _, _, _, _, _, rfl⟩
    · cases h
  · cases h
theorem within_run {P : Program} {w : World} {K : PySem.W.Frag} {d : He.DefD} {f : Addr} {fd : FuncData} {a b : Str} (F : FunD K d.name d.qual d.params d.body d.scope [] [] f fd) (S : FnScope [a, b] [a, b] d.scope)
    (hw : winBody d.body = some (a, b)) (la : d.scope.names.lookup a = some .local) (lb : d.scope.names.lookup b = some .local) (da : (a == ("__debug__" : Str)) = false) (db : (b == ("__debug__" : Str)) = false) (hb : Binds K fd [a, b] [])
    {A : Around} {E : Value → Shared → Prop} {s : Shared} {Q : Value → Shared → Prop} {i j : Int} {t u : Tok} (hroom : A.depth < recursionLimit) (KX : K.In s.heap) (lim : s.heap.NoLimit)
    (h : ∀ s', Keeps s s' → Q (.bool (winB i j)) s') : wpAny (model P w) A (call (.ref f) [.int i t, .int j u]) Q E s := by
  obtain ⟨p1, p2, p3, p4, p5, p6, hbody⟩ := winBody_some hw
  have bd := hb s [.int i t, .int j u] KX rfl
  obtain ⟨oc, od, dV, kV, doc, pm, an, cdv, ct, osl, rfl, lk, hcd, _, _⟩ := F.ex
  refine wpAny_call ?_
  refine codeAny_call_function hroom (KX _ _ lk) rfl S.co S.gen rfl (PySem.W.codeRec_of KX hcd) (bd _ _ _ _ ?_)
  refine wpAny_newFunctionEnv_cells S.kind (fun y hy => ?_) fun env he s1 x => ?_
  · have : y = (a, Value.int i t) ∨ y = (b, Value.int j u) := by simpa using hy
    rcases this with rfl | rfl
    · exact .inl la
    · exact .inl lb
  subst he
  refine ⟨lim.keeps x.toInCall.keep, codeAny_func ?_⟩
  obtain ⟨h1, tk, rfl, hk⟩ := x.done
  have nd : a ≠ b := by
    have := S.nd
    simp at this
    exact this
  rw [hbody]
  refine wpAny_execs_cons (wpAny_Return_some (wpAny_Compare1 ?_ (by rfl)))
  have na : bindL (newEnv d.scope s.heap.objs.size mainGlobals (cellsFrom (s.heap.objs.size + 1) d.scope.names []) (d.qual ++ ".<locals>.") (some f) cdv none builtinsNs).kindOf ([a, b].zip [.int i t, .int j u]) (fun _ => none) a = some (.int i t) := bindL_get (P := [a, b]) (vs := [.int i t, .int j u]) (by simpa using nd) (i := 0) rfl rfl la
  have nb : bindL (newEnv d.scope s.heap.objs.size mainGlobals (cellsFrom (s.heap.objs.size + 1) d.scope.names []) (d.qual ++ ".<locals>.") (some f) cdv none builtinsNs).kindOf ([a, b].zip [.int i t, .int j u]) (fun _ => none) b = some (.int j u) := bindL_get (P := [a, b]) (vs := [.int i t, .int j u]) (by simpa using nd) (i := 1) rfl rfl lb
  refine wpAny_BinOp ?_
  refine wpAny_Name (wpAny_loadName_local S.kind la x.toInCall.ns na ?_) da
  refine wpAny_Name (wpAny_loadName_local S.kind lb x.toInCall.ns nb ?_) db
  refine or_int ?_
  refine wpAny_Name (wpAny_loadName_local (s := { s with heap := h1, toks := tk + 1 }) S.kind lb x.toInCall.ns nb ?_) db
  refine PyProof.Rows.eq_int ?_
  exact h _ ⟨h1, tk + 1, rfl, hk⟩
/-- the block's scope: x its own name, y a name of the def, within the module's -/
structure WinS (sc scope : Scope) (x y : Str) : Prop where
  kind : scope.kind = .function
  co : scope.isCoroutine = false
  cell : ∀ z ∈ scope.names, z.2 ≠ .cell
  dot : scope.names.lookup (".0" : Str) = some NameKind.local
  loc : scope.names.lookup x = some .local
  fr : scope.names.lookup y = some .free
  glo : scope.names.lookup ("within" : Str) = some .globalImplicit
  free : ∀ z ∈ scope.names, z.2 = .free → sc.names.lookup z.1 = some .cell ∨ sc.names.lookup z.1 = some .free
  dx : (x == ("__debug__" : Str)) = false
  dy : (y == ("__debug__" : Str)) = false
  cy : (y == ("__classdict__" : Str)) = false
section
variable {X : Cx} {pins : List (Addr × Obj)} {σ : L2.St} {H : Hp} {s : Shared}
/-- the block's element -/
theorem elt_win {P : Program} {w : World} {K : PySem.W.Frag} {mg : Str → Option Value} {sc scope : Scope} {x y : Str} (W : WinOk K mg) (S : WinS sc scope x y) {cenv : Env} {A : Around} {E : Value → Shared → Prop} {s : Shared} {m : Str → Option Value} {i j : Int} {t u : Tok} {c : Addr} {p0 p1 p2 p3 : Pos}
    (hsc : cenv.scope = scope) (hg : cenv.globals = mainGlobals) (hroom : A.depth < recursionLimit) (KX : K.In s.heap) (lim : s.heap.NoLimit) (gn : s.heap.Ns mainGlobals mg) (hn : s.heap.Ns cenv.locals m) (hm : m x = some (.int i t))
    (hc : cenv.cells.lookup y = some c) (hcv : s.heap.IsCell c (some (.int j u))) :
    wpAny (model P w) A (eval (.Call (.Name "within" p0) [.Name x p1, .Name y p2] [] p3) cenv) (fun v s' => v = .bool (winB i j) ∧ Keeps s s') E s := by
  obtain ⟨f, d, fd, a, b, e1, F, FS, hw, la, lb, da, db, hb⟩ := W
  refine wpAny_Call_Name_kw ?_
  refine Calls.Name_function_global (by rw [hsc]; exact S.kind) (show cenv.scope.names.lookup _ = _ by rw [hsc]; exact S.glo) (Calls.loadGlobal_global (by rw [hg]; exact gn) e1 ?_) (by decide)
  refine PySem.W.callWith_K (h₀ := s.heap) KX F.kp ?_ (by rfl) (by rfl)
  show wpAny _ _ (spliced [(false, eval (.Name x p1) cenv), (false, eval (.Name y p2) cenv)]) _ _ s
  refine Calls.spliced_cons ?_
  refine wpAny_Name (wpAny_loadName_local (by rw [hsc]; exact S.kind) (show cenv.scope.names.lookup x = some .local by rw [hsc]; exact S.loc) hn hm ?_) S.dx
  refine Calls.spliced_cons ?_
  refine wpAny_Name (wpAny_loadName_free (by rw [hsc]; exact S.kind) (show cenv.scope.names.lookup y = some .free by rw [hsc]; exact S.fr) hc hcv ?_ S.cy) S.dy
  refine Calls.spliced_nil ⟨KX, ?_⟩
  exact within_run F FS hw la lb da db hb hroom KX lim fun s' k => ⟨rfl, k⟩
/-- the test at place j -/
def trI (j : Int) (ns : List Int) (n : Nat) : Bool := match ns[n]? with
  | some i => winB i j
  | none => false
theorem any_trI (ns : List Int) (j : Int) : (List.range ns.length).any (trI j ns) = ns.any fun i => winB i j := by
  rw [Bool.eq_iff_iff, List.any_eq_true, List.any_eq_true]
  constructor
  · intro ⟨n, hn, h⟩
    have hn := List.mem_range.mp hn
    unfold trI at h
    rw [List.getElem?_eq_getElem hn] at h
    exact ⟨_, List.getElem_mem hn, h⟩
  · intro ⟨i, hi, h⟩
    obtain ⟨n, hn, e⟩ := List.getElem_of_mem hi
    refine ⟨n, List.mem_range.mpr hn, ?_⟩
    unfold trI
    rw [List.getElem?_eq_getElem hn]
    show winB ns[n] j = true
    rw [e]; exact h
/-- any(within(x, y) for x in te) -/
def tAnyW (K : PySem.W.Frag) (P : Addr) (iy : Nat) (te : TE) : TE := fun σ H Q => te σ H fun v H1 => ∃ (yl : Addr) (ns : List Int) (j : Int), v = .ref yl ∧ SqL K H1 yl (ns.map V.int) ∧ σ[iy]? = some (some (.int j)) ∧ GxR.TabG H1 P ∧ ∀ H2, GxR.Tabbed P H1 H2 → Q (.bl (ns.any fun i => winB i j)) H2
theorem pe_anyW {c P : Addr} {iter : Expr} {x y : Str} {px p pos gpos p0 p1 p2 p3 : Pos} {scope : Scope} {te : TE} {k iy : Nat}
    (hr : Room k X.A) (hg : Gl X "any") (hmg : X.mg "any" = none) (W : WinOk X.K X.mg) (TB : GxR.TabB X.base X.mg c P) (hcode : X.env.code = .ref c) (S : WinS X.env.scope scope x y) (hN : X.N[iy]? = some y) (hi : PE X iter te)
    (hs : ∀ v, genFold iter X.env v = pure v)
    (he : starEach [.GeneratorExp (.Call (.Name "within" p0) [.Name x p1, .Name y p2] [] p3) [⟨.Name x px, iter, [], 0⟩] scope gpos] X.env = (false, eval (.GeneratorExp (.Call (.Name "within" p0) [.Name x p1, .Name y p2] [] p3) [⟨.Name x px, iter, [], 0⟩] scope gpos) X.env) :: starEach [] X.env) :
    PE X (.Call (.Name "any" p) [.GeneratorExp (.Call (.Name "within" p0) [.Name x p1, .Name y p2] [] p3) [⟨.Name x px, iter, [], 0⟩] scope gpos] [] pos) (tAnyW X.K P iy te) := by
  refine ⟨fun pins s σ H Q I h => ?_⟩
  have hfree : ∀ z ∈ scope.names, z.2 = .free → ∃ c, X.env.cells.lookup z.1 = some c := fun z hz e => I.ok.has z.1 (S.free z hz e)
  refine wpAny_Call_Name_kw (ld_blt I hg hmg boot_any ?_)
  refine PyProof.Rows.callWith_builtin1 ?_ he (by rfl)
  rw [he]
  show wpAny _ _ (spliced ((false, eval (.GeneratorExp (.Call (.Name "within" p0) [.Name x p1, .Name y p2] [] p3) [⟨.Name x px, iter, [], 0⟩] scope gpos) X.env) :: backTo pos (starEach [] X.env))) _ _ s
  refine Calls.spliced_cons ?_
  refine wpAny_GeneratorExp_walksQD hr.hd S.co (closure_ok hfree) S.cell S.dot S.loc S.kind (by have := hr.dp; omega) ?_ hs
  refine thn (hi.run pins s σ H _ I h) fun xv s1 ⟨v, H1, I1, r1, q1⟩ => ?_
  obtain ⟨yl, ns, j, rfl, hyl, hσ, ⟨ps, hP, ht⟩, q1⟩ := q1
  obtain rfl : xv = Value.ref yl := r1
  obtain ⟨its, rv, hl, hz⟩ := I1.list hyl
  have hIL := hl.isList
  have hlen : its.length = ns.length := by rw [← rv.length, List.length_map]
  have hat : ∀ (i : Nat) (v : Value), its.toArray[i]? = some v → ∃ (n : Int) (u : Tok), ns[i]? = some n ∧ v = .int n u := fun i v hv => by
    have hv2 : its[i]? = some v := by simpa using hv
    have hi2 : i < its.length := (List.getElem?_eq_some_iff.mp hv2).1
    obtain ⟨a, ha⟩ : ∃ a, ns[i]? = some a := ⟨ns[i]'(by omega), List.getElem?_eq_getElem _⟩
    have hb : (ns.map V.int)[i]? = some (V.int a) := by rw [List.getElem?_map, ha] <;> rfl
    obtain ⟨u, hu, ru⟩ := rv.get hb
    rw [hv2] at hu
    cases hu
    obtain ⟨t, e⟩ := (show ∃ t, v = Value.int a t from ru)
    exact ⟨a, t, ha, e⟩
  -- the captured name
  obtain ⟨cy, jt, hcy, hcell⟩ : ∃ (cy : Addr) (jt : Tok), X.env.cells.lookup y = some cy ∧ s1.heap.IsCell cy (some (.int j jt)) := by
    obtain ⟨m, _, hm⟩ := I1.loc
    have hk := S.free (y, .free) (PySem.mem_of_lookup S.fr) rfl
    obtain ⟨u, ru, lk⟩ := hm iy y (.int j) hN hσ (by rcases hk with z | z <;> first | exact .inr (.inl z) | exact .inr (.inr z))
    obtain ⟨t, rfl⟩ := (show ∃ t, u = Value.int j t from ru)
    rcases lk with ⟨z, _⟩ | ⟨_, c, z1, z2⟩
    · have z : X.env.scope.names.lookup y = some .local := z
      rcases hk with q | q
      · have q : X.env.scope.names.lookup y = some .cell := q
        rw [z] at q; cases q
      · have q : X.env.scope.names.lookup y = some .free := q
        rw [z] at q; cases q
    · exact ⟨c, t, z1, z2⟩
  refine wpAny_pyIter_list hIL ?_
  generalize ho : ({ cls := .type "list_iterator", data := .fields #[.ref yl, .int 0 0] } : Obj) = o
  have hitr : (s1.heap.push o).IsListIter s1.heap.objs.size yl 0 := by
    subst ho
    exact ⟨_, Heap.get?_push_size _ rfl, rfl, rfl⟩
  have hylt : yl < s1.heap.objs.size := by
    obtain ⟨_, e, _⟩ := _root_.id hIL
    exact Heap.lt_size e
  have hPs : s1.heap.get? P = some { cls := .none, data := .fields ps } := I1.hok P _ hP
  have hPlt : P < s1.heap.objs.size := Heap.lt_size hPs
  have hP2 : (s1.heap.push o).get? P = some { cls := .none, data := .fields ps } := Heap.get?_push_of_some _ hPs
  have cd : PySem.W.CodeHd (s1.heap.push o) c P := TB.code.keeps fun b u e => Heap.get?_push_of_some _ (I1.bk b u e)
  have lim2 : (s1.heap.push o).NoLimit := I1.nolimit.push o
  have hnb : X.base.get? P = none := by
    cases e : X.base.get? P with
    | none => rfl
    | some o => have := (I1.bs P o e).2; rw [hP] at this; cases this
  have cont : ∀ (code : Value) (h3 : Heap) (tk : Nat) (ps' : Array Value), Heap.ExtBut P (s1.heap.push o) h3 → (s1.heap.push o).objs.size ≤ h3.objs.size → h3.get? P = some { cls := .none, data := .fields ps' } → (∃ more, ps' = ps ++ more) → TriplesOk ps'.toList →
      wpAny (model X.prog X.w) X.A (builtinsFor X.env.globals X.env.builtins) (fun bi s₄ =>
        ∃ Ia fp wr n₀ Pf St₀ pz F, Value.ref s1.heap.objs.size = .ref Ia ∧ (∀ A' : Around, A'.handled = none → Walks X.prog X.w A' Ia fp wr n₀ Pf St₀) ∧ St₀ 0 s₄.heap ∧ (∀ b ∈ fp, b < s₄.heap.objs.size) ∧ s₄.heap.NoLimit ∧ cStatics ∉ wr ∧
          (∀ href : Heap, (∀ b o, s₄.heap.get? b = some o → href.get? b = some o) →
            QuietGenD X.prog X.w (genEnv scope (cloFrom X.env.cells scope.names []) s₄.heap.objs.size code bi X.env) x [] (.Call (.Name "within" p0) [.Name x p1, .Name y p2] [] p3) (List.range s₄.heap.objs.size) wr Pf pz F href (X.A.depth + 1) (X.A.units + 8)) ∧
          (∀ a h₅ tk gs, gs.bare = true → s₄.heap.objs.size < a → h₅.objs.size = a + 1 → (∀ b o, s₄.heap.get? b = some o → h₅.get? b = some o) →
            WalksS X.prog X.w X.A.in4 a (a :: s₄.heap.objs.size :: List.range s₄.heap.objs.size) (s₄.heap.objs.size :: wr) (GenOnlyQ s₄.gens.size) (passing pz n₀ 0).length
              (fun j y => ∃ i, (passing pz n₀ 0)[j]? = some i ∧ F i y) (GenAt X.prog X.w X.A.in4 a s₄.gens.size s₄.heap.objs.size (List.range s₄.heap.objs.size) wr pz n₀ F) →
            GenAt X.prog X.w X.A.in4 a s₄.gens.size s₄.heap.objs.size (List.range s₄.heap.objs.size) wr pz n₀ F 0 { s₄ with gens := s₄.gens.push gs, toks := tk, heap := h₅ } →
            wpAny (model X.prog X.w) X.A (spliced (backTo pos (starEach [] X.env))) (fun vs s₂ => wpAny (model X.prog X.w) X.A (call (.builtin "any") (.ref a :: vs)) (EP X pins σ Q) X.xe s₂) X.xe { s₄ with gens := s₄.gens.push gs, toks := tk, heap := h₅ })) X.xe { s1 with heap := h3, toks := tk } := by
    intro code h3 tk ps' hx hsz hP3 hmore ht3
    obtain ⟨bm, ob, e1, e2, e3, e4, e5, e6, e7, e8⟩ := TB.bm
    have hcP : cStatics ≠ P := fun e => by
      obtain ⟨_, hns, _⟩ := I1.nolimit
      obtain ⟨o', es, ep, ho, hd, _⟩ := hns
      rw [e, hPs] at ho
      cases ho
      cases hd
    have hcl : cStatics < s1.heap.objs.size := let ⟨_, hns, _⟩ := I1.nolimit; hns.lt
    have sz2 : (s1.heap.push o).objs.size = s1.heap.objs.size + 1 := Heap.size_push ..
    have keep3 : ∀ b u, b ≠ P → s1.heap.get? b = some u → h3.get? b = some u := fun b u hb e => hx b u hb (Heap.get?_push_of_some _ e)
    refine wpAny_builtinsFor (m := X.mg) (by rw [I1.ok.glob]; exact ((I1.mod.glob.keeps I1.bk).push o).extBut hx TB.gP) e1 e2 (keep3 _ _ e4 (I1.bk _ _ e5)) e6 e7 e8 ?_
    have hylP : yl ≠ P := fun z => by
      obtain ⟨_, e, hc1, _, hd1⟩ := _root_.id hIL
      rw [z, hPs] at e
      cases e
      cases hd1
    have hIL3 : h3.IsList yl its.toArray := by
      obtain ⟨ob, e, r⟩ := _root_.id hIL
      exact ⟨ob, keep3 _ _ hylP e, r⟩
    have hItr3 : h3.IsListIter s1.heap.objs.size yl 0 := hitr.at fun u e => hx _ u (Nat.ne_of_gt hPlt) e
    have hcyP : cy ≠ P := fun z => by
      obtain ⟨ob, e, hd⟩ := _root_.id hcell
      rw [z, hPs] at e; cases e; cases hd
    have hcell3 : h3.IsCell cy (some (.int j jt)) := by
      obtain ⟨ob, e, r⟩ := _root_.id hcell
      exact ⟨ob, keep3 _ _ hcyP e, r⟩
    have hcyl : cy < s1.heap.objs.size := by
      obtain ⟨ob, e, _⟩ := _root_.id hcell
      exact Heap.lt_size e
    refine ⟨s1.heap.objs.size, [s1.heap.objs.size, yl], [s1.heap.objs.size], its.toArray.size, (fun i v => its.toArray[i]? = some v), (fun i h => h.IsListIter s1.heap.objs.size yl i ∧ h.IsList yl its.toArray), (fun _ => true),
      (fun i y => ∃ (n : Int), ns[i]? = some n ∧ y = .bool (winB n j)), rfl, (fun A' hA => Walks.list hA _ _ (Nat.ne_of_lt hylt) _), ⟨hItr3, hIL3⟩, ?_, lim2.extBut hx hcP, ?_, ?_, ?_⟩
    · intro b hb
      rcases List.mem_cons.mp hb with z | z
      · rw [z]
        show s1.heap.objs.size < h3.objs.size
        omega
      · rcases List.mem_cons.mp z with z | z
        · rw [z]
          have e9 : s1.heap.objs.size ≤ h3.objs.size := by omega
          exact Nat.lt_of_lt_of_le hylt e9
        · cases z
    · intro z
      rcases List.mem_cons.mp z with z | z
      · exact Nat.ne_of_lt hcl z
      · cases z
    · intro href hhref
      refine ⟨fun A' E' i v s₂ m₂ hA hD hU hPv hn hm hk => ?_, fun A' E' i v s₂ m₂ hA hD hU hPv hp hn hm hk => ?_⟩
      · simp only [List.forIn_nil]
        exact wpAny_pure ⟨rfl, GxR.keeps_refl _⟩
      · obtain ⟨a, u, ha, rfl⟩ := hat i v hPv
        have old : ∀ b o, b ≠ P → s1.heap.get? b = some o → s₂.heap.get? b = some o := fun b o hb e => by
          have hlt : b < s1.heap.objs.size := Heap.lt_size e
          have e9 : s1.heap.objs.size ≤ h3.objs.size := by omega
          refine hk b (List.mem_range.mpr (Nat.lt_of_lt_of_le hlt e9)) (fun z => ?_) o (hhref b o (keep3 b o hb e))
          rcases List.mem_cons.mp z with z | z
          · rw [z] at hlt; exact Nat.lt_irrefl _ hlt
          · cases z
        have bk : ∀ b o, X.base.get? b = some o → s₂.heap.get? b = some o := fun b o e => old b o (fun z => by rw [z, hnb] at e; cases e) (I1.bk b o e)
        refine wpAny_mono (elt_win W S (cenv := genEnv scope (cloFrom X.env.cells scope.names []) h3.objs.size code builtinsNs X.env) (m := m₂) (i := a) (t := u) (j := j) (u := jt) (c := cy) rfl I1.ok.glob ?_ (I1.ok.mod.kin.keeps bk) (I1.ok.mod.nolimit.keeps bk) (I1.ok.mod.glob.keeps bk) hn hm (NdefX.clo_has hfree (PySem.mem_of_lookup S.fr) hcy) ?_) (fun y s3 r => ?_) fun _ _ e => e
        · have := hr.dp; omega
        · obtain ⟨ob, e, r⟩ := _root_.id hcell
          exact ⟨ob, old cy ob hcyP e, r⟩
        · exact ⟨⟨a, ha, r.1⟩, r.2⟩
    · intro g h5 tk5 gs hgb hag hsz5 hk5 W5 hgat
      simp only [GxR.passing_true, List.length_range] at W5
      have hn5 : its.toArray.size = ns.length := by rw [List.size_toArray, hlen]
      rw [hn5] at W5 hgat
      refine Calls.spliced_nil ?_
      refine call_any_walkS (W5.in4_1.self 0 _ _ _ hgat ⟨g, _, _, _, _, _, _, trI j ns, rfl, W5.in4_1, hgat, ?_, fun s' hm => ?_⟩)
      · intro n y sj Qj Ej hy hQj
        obtain ⟨i, hij, z, hzn, rfl⟩ := hy
        obtain ⟨hj, ej⟩ := List.getElem?_eq_some_iff.mp hij
        rw [List.getElem_range] at ej
        subst ej
        have e9 : trI j ns n = winB z j := by unfold trI; rw [hzn]
        rw [e9] at hQj
        exact wpAny_truthy_bool hQj
      · obtain ⟨more, em⟩ := hmore
        have nwr : ∀ b u, s1.heap.get? b = some u → b ∉ h3.objs.size :: [s1.heap.objs.size] := fun b u e hb => by
          have hl := Heap.lt_size e
          rcases List.mem_cons.mp hb with z | z
          · rw [z] at hl
            have h9 : (h3.objs.size : Nat) < s1.heap.objs.size := hl
            omega
          · rcases List.mem_cons.mp z with z | z
            · rw [z] at hl
              exact Nat.lt_irrefl _ hl
            · cases z
        have J := GxR.inv_tab (more := more) (h' := s'.heap) (g' := s'.gens) (d' := s'.drawn) (t' := s'.toks) I1 hP (fun b u hb e => hm.heap b u (nwr b u e) (hk5 b u (keep3 b u hb e)))
          (by rw [← em]; exact hm.heap P _ (nwr P _ hPs) (hk5 P _ hP3)) (AllBare.movedS (I1.bare.push hgb) hm)
        rw [GxR.sh_eta s1 s' hm.os] at J
        refine ⟨.bl _, _, J, rfl, ?_⟩
        rw [any_trI]
        exact q1 _ ⟨⟨ps ++ more, upd_same, by rw [← em]; exact ht3⟩, fun b hb => upd_ne hb⟩
  refine ⟨lim2, ?_⟩
  cases hf : codeAmong gpos ps.toList with
  | none =>
    refine wpAny_genexprCodeX hcode (cd.code hP2 ht) (cd.tab hP2) hf fun c' h' tk hx hge hlt hco' _ htab' _ => ?_
    obtain ⟨o1, vs, f1, tf, fl, tg, inF, tx, tt, op, _, _, _, _, _, _, _, _, _, htr, _⟩ := hco'
    exact cont _ h' tk _ hx (Nat.le_trans hge (Nat.le_of_lt hlt)) htab'.2 ⟨_, rfl⟩ htr
  | some cv =>
    refine wpAny_genexprCode_hit hcode (cd.code hP2 ht) hf ?_
    exact cont cv (s1.heap.push o) s1.toks ps (Heap.ExtBut.refl _ _) (Nat.le_refl _) hP2 ⟨#[], by simp⟩ ht
end
/-! ### E's side -/
def intsOf : List U → Option (List Int)
  | [] => some []
  | .int i :: r => (intsOf r).map (i :: ·)
  | _ :: _ => none
theorem intsOf_some : ∀ {us : List U} {ns : List Int}, intsOf us = some ns → us = ns.map U.int
  | [], _, h => by cases h; rfl
  | u :: r, ns, h => by
    cases u <;> first | (cases h; done) | skip
    rename_i i
    simp only [intsOf] at h
    cases e : intsOf r with
    | none => rw [e] at h; cases h
    | some ms => rw [e] at h; cases h; rw [intsOf_some e]; rfl
theorem intsOf_map : ∀ ns : List Int, intsOf (ns.map U.int) = some ns
  | [] => rfl
  | i :: r => by simp only [List.map_cons, intsOf, intsOf_map r, Option.map_some]
def anyWU (s : S) (h : Hd) (iy : Nat) : Option U := match seqOf s h, s.env[iy]? with
  | some (false, us), some (.val (.int j)) => (intsOf us).map fun ns => .bl (ns.any fun i => winB i j)
  | _, _ => none
def eAnyW (mh : M Hd) (iy : Nat) : M U := bnd mh fun h => look' fun s => anyWU s h iy
section
variable {a : Act} {X : Cx} {Φ : Phi} {mh : M Hd}
theorem se_anyW {c P : Addr} {iter : Expr} {x y : Str} {px p pos gpos p0 p1 p2 p3 : Pos} {scope : Scope} {k iy : Nat} (hK : X.K = a.K)
    (hr : Room k X.A) (hg : Gl X "any") (hmg : X.mg "any" = none) (W : WinOk X.K X.mg) (TB : GxR.TabB X.base X.mg c P) (hcode : X.env.code = .ref c) (hP : P ∈ a.cls.T) (S : WinS X.env.scope scope x y) (hN : X.N[iy]? = some y) (h : SH X a Φ iter mh)
    (hs : ∀ v, genFold iter X.env v = pure v)
    (he : starEach [.GeneratorExp (.Call (.Name "within" p0) [.Name x p1, .Name y p2] [] p3) [⟨.Name x px, iter, [], 0⟩] scope gpos] X.env = (false, eval (.GeneratorExp (.Call (.Name "within" p0) [.Name x p1, .Name y p2] [] p3) [⟨.Name x px, iter, [], 0⟩] scope gpos) X.env) :: starEach [] X.env) :
    SE X a Φ (.Call (.Name "any" p) [.GeneratorExp (.Call (.Name "within" p0) [.Name x p1, .Name y p2] [] p3) [⟨.Name x px, iter, [], 0⟩] scope gpos] [] pos) (eAnyW mh iy) :=
  PE.imp (pe_anyW hr hg hmg W TB hcode S hN h hs he) fun σ H Q q => TR.one q fun w H s hd v r k => by
    obtain ⟨z, e, R, out⟩ := Sat.lk k
    unfold anyWU at e
    cases e1 : seqOf s hd with
    | none => rw [e1] at e; cases e
    | some tu =>
      obtain ⟨t, us⟩ := tu
      rw [e1] at e
      cases t with
      | true => cases e
      | false =>
        cases e2 : s.env[iy]? with
        | none => rw [e2] at e; cases e
        | some sv =>
          rw [e2] at e
          cases sv with
          | val u =>
            cases u <;> first | (cases e; done) | skip
            rename_i j
            simp only at e
            cases e3 : intsOf us with
            | none => rw [e3] at e; cases e
            | some ns =>
              rw [e3] at e
              cases e
              obtain ⟨p, vs, rfl, ru, sq⟩ := seq_spec R r e1
              rw [intsOf_some e3] at ru
              have hv := ru.ints
              subst hv
              obtain ⟨x', hx, rx⟩ := R.slot iy _ e2
              cases rx
              rw [← hK] at sq
              refine ⟨p, ns, j, rfl, sq, hx, R.tab P hP, fun H2 tb => ?_⟩
              obtain ⟨R2, st⟩ := R.tabbed hP tb
              exact out w H2 _ st R2 (.bl _)
          | no => cases e
          | ol _ => cases e
          | od _ _ => cases e
end
end EL
set_option Elab.async false
set_option linter.all false
set_option maxRecDepth 100000
set_option maxHeartbeats 4000000
/-! ED15: sorted(set(l)), l a list of small whole numbers. -/
namespace EL
open PySem PySem.Spec PyProof.Rows L2

/-- numbers that make a set of few -/
def smallI (k : Int) : Prop := 0 ≤ k ∧ k < 4000
theorem few_of : ∀ (n : Nat) (l : List Int), l.Nodup → (∀ x ∈ l, 0 ≤ x ∧ x < (n : Int)) → l.length ≤ n
  | 0, l, _, h => by
    cases l with
    | nil => simp
    | cons x r => have := h x (List.mem_cons_self ..); omega
  | n + 1, l, nd, h => by
    have e := few_of n (l.erase (n : Int)) (nd.erase _) fun x hx => by
      have h1 := h x (List.mem_of_mem_erase hx)
      have h2 : x ≠ (n : Int) := fun z => by
        rw [z] at hx
        exact (List.Nodup.not_mem_erase nd) hx
      omega
    have z := List.length_erase (a := (n : Int)) (l := l)
    split at z <;> omega
theorem SetR.few {w : World} {h : Heap} {a : Addr} {ns : List Int} {i c : Nat} (R : SetR w h a (fun j => decide (j ∈ ns.take i)) c) (sm : ∀ k ∈ ns, smallI k) : c ≤ 4000 := by
  obtain ⟨o, es, ep, t, _, _, _, _, nd, hm, _, _, hn, _, _⟩ := R
  have := few_of 4000 _ nd fun x hx => sm x (List.mem_of_mem_take (of_decide_eq_true ((hm x).mpr hx)))
  rw [List.length_map, Array.length_toList] at this
  omega
section
variable {P : Program} {w : World} {A : Around} {E : Value → Shared → Prop} {s : Shared}
/-- the loop that fills a set -/
theorem fill_set {I S : Addr} {fp wr : List Addr} {G : Array GenState → Array GenState → Prop} {n : Nat} {Pv : Nat → Value → Prop} {St : Nat → Shared → Prop} {R : Result → Shared → Prop} (wk : WalksS P w A.in1 I fp wr G n Pv St) (out : S ∉ fp) {ns : List Int}
    (hn : n = ns.length) (sm : ∀ k ∈ ns, smallI k) (val : ∀ i v, Pv i v → ∃ k t, ns[i]? = some k ∧ v = .int k t) (fin : ∀ (s0 s' : Shared) (c : Nat), Moved (S :: wr) G s0 s' → SetR w s'.heap S (fun j => decide (j ∈ ns)) c → Moved (S :: wr) G s s' → R (.ok (.ret .none)) s') :
    ∀ (left i : Nat) (u : Shared), n - i = left → i ≤ n → St i u → Moved (S :: wr) G s u → (∃ c, SetR w u.heap S (fun j => decide (j ∈ ns.take i)) c) → codeAny (model P w) A (.builtin "set.update.loop" ⟨[.ref S, .ref I], []⟩) R u := by
  have nw : S ∉ wr := fun z => out (wk.sub _ z)
  have up : ∀ b ∈ wr, b ∈ S :: wr := fun b hb => List.mem_cons_of_mem _ hb
  intro left
  induction left with
  | zero =>
    rintro i u hl hi st mv ⟨c, hS⟩
    obtain rfl : i = n := by omega
    refine codeAny_builtin F.entry_set_update_loop ?_
    rw [Around.under_plainId F.plain_set_update_loop _]
    show wpAny _ A.in1 (pyNext (.ref I) >>= _) _ _ u
    refine wpAny_bind (wk.done u _ _ st fun u' m => ?_)
    show wpAny _ A.in1 (PySem.ret Value.none) _ _ u'
    rw [List.take_of_length_le (Nat.le_of_eq hn.symm)] at hS
    exact wpAny_pure (fin u u' c (m.mono up) (hS.at fun o e => m.heap S o nw e) (Moved.trans wk.gtrans mv (m.mono up)))
  | succ left ih =>
    rintro i u hl hi st mv ⟨c, hS⟩
    have lt : i < n := by omega
    refine codeAny_builtin F.entry_set_update_loop ?_
    rw [Around.under_plainId F.plain_set_update_loop _]
    show wpAny _ A.in1 (pyNext (.ref I) >>= _) _ _ u
    refine wpAny_bind (wk.item i u _ _ lt st fun v u' pv st' m => ?_)
    obtain ⟨z, t, hz, rfl⟩ := val i v pv
    have hS1 : SetR w u'.heap S (fun j => decide (j ∈ ns.take i)) c := hS.at fun o e => m.heap S o nw e
    show wpAny _ A.in1 (holding [Value.int z t] (setAdd S (.int z t)) >>= _) _ _ u'
    refine wpAny_bind (wpAny_holding ?_)
    unfold setAdd
    refine wpAny_holding (wpAny_bind ((intKind P w).pyHash (k := z) (intKind_is _ _ _ _) ?_))
    have few := SetR.few hS1 sm
    refine setR_add_hashed (s := { u' with toks := u'.toks + 1 }) hS1 (by unfold scanBound; omega) fun h' sb hS2 => ?_
    have hS3 : SetR w h' S (fun j => decide (j ∈ ns.take (i + 1))) (if decide (z ∈ ns.take i) = true then c else c + 1) := hS2.congr fun j => by
      rw [List.take_add_one, hz]; simp [List.mem_append]
    have off : ∀ b o, b ≠ S → u'.heap.get? b = some o → h'.get? b = some o := fun b o hb e => by rw [sb.2 b hb]; exact e
    refine wpAny_pure ⟨plainId_quiet F.plain_set_update_loop _, ih (i + 1) _ (by omega) lt (wk.frame _ u' _ _ st' (Nat.le_succ _) fun b hb o e => off b _ (fun z : b = S => out (z ▸ hb)) e) ?_ ⟨_, hS3⟩⟩
    exact Moved.trans wk.gtrans mv ((m.mono up).then_heap (Nat.le_succ _) fun b o hb e => off b o (fun z : b = S => hb (z ▸ List.mem_cons_self)) e)

/-- a new, empty set -/
abbrev newSet (w : World) : Obj := { cls := .type "set", dict := none, data := .set #[] 0 (.fresh 0 0 (!w.params.followText "set-order")) }
set_option maxRecDepth 100000 in
set_option maxHeartbeats 3200000 in
theorem set_of_list {l : Addr} {its : Array Value} {ns : List Int} {Q : Value → Shared → Prop} (hh : A.handled = none) (hl : s.heap.IsList l its) (ia : IntsAre its.toList ns) (sm : ∀ k ∈ ns, smallI k)
    (done : ∀ (h' : Heap) (tk c : Nat), SetR w h' s.heap.objs.size (fun j => decide (j ∈ ns)) c → (∀ b o, s.heap.get? b = some o → h'.get? b = some o) → Q (.ref s.heap.objs.size) { s with heap := h', toks := tk }) :
    wpAny (model P w) A (call (.type "set") [.ref l]) Q E s := by
  have size : its.size = ns.length := by have z := IntsAre.length ia; rwa [Array.length_toList] at z
  obtain ⟨c0, tl0, hmro⟩ := F.called_set.mro
  have f1 := F.called_set.made
  have f2 := F.called_set.sub
  refine wpAny_call (codeAny_of_tree ?_)
  show wpAny _ _ (callAny (.type "set") _) _ _ _
  refine wpAny_pure ⟨Code.quiet_builtin _ (by decide +kernel), codeAny_builtin F.entry_type_call ?_⟩
  rw [Around.under_plain (weight_type_call_type "set" [.ref l] []) rfl]
  have f3 := F.called_set.notType
  have f4 := F.called_set.canCreate
  have f5 := F.typeCall_set_1 (.ref l)
  repeat (any_goals (first | assumption | wp_step))
  refine codeAny_mono (code_set_led1 (.ref l) (E := E) (Q₁ := fun x u => x = .ref s.heap.objs.size ∧ u = { s with heap := s.heap.push (newSet w) }) ⟨rfl, rfl⟩) fun r u hr => ?_
  rcases r with e | fl
  · exact hr
  cases fl with
  | ret x =>
    obtain ⟨rfl, rfl⟩ := hr
    have at0 : (s.heap.push (newSet w)).get? s.heap.objs.size = some (newSet w) := Heap.get?_push_size _ rfl
    have ty : Shared.TypeIs { s with heap := s.heap.push (newSet w) } (.ref s.heap.objs.size) "set" := ⟨_, at0, rfl⟩
    have g1 := F.called_set.init.lookup
    have g2 := F.called_set.init.bind (.ref s.heap.objs.size)
    repeat (any_goals (first | assumption | wp_step))
    refine codeAny_mono (codeAny_call_builtin (R := wants (fun r u => r = .none ∧ ∃ h' tk c, u = { s with heap := h', toks := tk } ∧ SetR w h' s.heap.objs.size (fun j => decide (j ∈ ns)) c ∧
        (∀ b o, s.heap.get? b = some o → h'.get? b = some o)) E) F.called_set.init.plain F.entry_set_init (check_set_init_1 ty ?_)) fun r2 u2 hr2 => ?_
    · have hl0 := hl
      obtain ⟨⟨k1, k2, k3, k4⟩, ol, hc, nl, hd⟩ := hl0
      simp only at hc hd
      subst hc
      subst hd
      have ol' : (s.heap.push (newSet w)).get? l = some { cls := .type "list", dict := k2, data := .seq its nl, slots := k4 } := Heap.get?_push_of_some _ ol
      have n1 := F.sub_list_set
      have n2 := F.sub_list_frozenset
      have n3 : (Value.type "list" == Value.type "dict") = false := by decide
      have hl1 : (s.heap.push (newSet w)).IsList l its := ⟨_, ol', rfl, nl, rfl⟩
      unfold Builtin.«set.__init__» noKeywords Builtin.Frozenset.updateFrom
      generalize hPI : pyIter = PI
      wp_walk
      subst hPI
      refine wpAny_pyIter_list hl1 (wpAny_bind (wpAny_runValue ?_))
      have llt : l < s.heap.objs.size := Heap.lt_size ol
      have hh3 : A.in1.in1.in1.handled = none := by simp [hh]
      have sz1 : (s.heap.push (newSet w)).objs.size = s.heap.objs.size + 1 := Heap.size_push ..
      have neI : l ≠ (s.heap.push (newSet w)).objs.size := by rw [sz1]; exact Nat.ne_of_lt (Nat.lt_succ_of_lt llt)
      have apart : s.heap.objs.size ∉ [(s.heap.push (newSet w)).objs.size, l] := fun z => by
        rw [sz1] at z
        rcases List.mem_cons.mp z with z | z
        · exact absurd z (Nat.ne_of_lt (Nat.lt_succ_self _))
        · exact absurd (List.mem_singleton.mp z) (Nat.ne_of_gt llt)
      have val : ∀ (i : Nat) (v : Value), its[i]? = some v → ∃ k t, ns[i]? = some k ∧ v = .int k t := fun i v hv => by
        have hi : i < ns.length := by rw [← size]; exact (Array.getElem?_eq_some_iff.mp hv).1
        obtain ⟨t, e⟩ := PyProof.Rows.IntsAre.int_at ia i v (by rw [Array.getElem?_toList]; exact hv)
        exact ⟨ns[i], t, List.getElem?_eq_getElem hi, by rw [e, List.getD_eq_getElem?_getD, List.getElem?_eq_getElem hi]; rfl⟩
      refine fill_set ((Walks.list hh3 _ l neI its).toS) apart size sm val (fun s0 u' c' _ hS mv => ?_) (its.size - 0) 0 _ rfl (Nat.zero_le _) ⟨⟨_, Heap.get?_push_size _ rfl, rfl, rfl⟩, hl1.push _⟩ ⟨fun _ _ _ e => e, rfl, rfl, rfl, Nat.le_refl _⟩ ⟨0, setR_new_at (Heap.get?_push_of_some _ at0)⟩
      · obtain ⟨h', g', d', tk', os'⟩ := u'
        obtain rfl : g' = s.gens := mv.gens
        obtain rfl : d' = s.drawn := mv.drawn
        obtain rfl : os' = s.os := mv.os
        show wpAny _ _ _ _ _ _
        refine wpAny_pure ?_
        show wpAny _ _ (PySem.ret Value.none) _ _ _
        refine wpAny_pure ⟨rfl, h', tk', c', rfl, hS, fun b o e => ?_⟩
        have b0 : b < s.heap.objs.size := Heap.lt_size e
        refine mv.heap b o (fun z => ?_) (Heap.get?_push_of_some _ (Heap.get?_push_of_some _ e))
        rcases List.mem_cons.mp z with z | z
        · exact absurd z (Nat.ne_of_lt b0)
        · have z := List.mem_singleton.mp z
          rw [sz1] at z
          exact absurd z (Nat.ne_of_lt (Nat.lt_succ_of_lt b0))
    · rcases r2 with e | fl2
      · exact hr2
      cases fl2 with
      | ret y =>
        obtain ⟨rfl, h', tk, c, rfl, hS, hk⟩ := hr2
        repeat (any_goals (first | assumption | wp_step))
        exact done _ _ _ hS hk
      | _ => exact hr2.elim
  | _ => exact hr.elim
end
section
variable {P : Program} {w : World} {A : Around} {E : Value → Shared → Prop} {s : Shared}
theorem sort_of_set {a : Addr} {S : Int → Bool} {n : Nat} {Q : Value → Shared → Prop} (R : SetR w s.heap a S n) (hh : A.handled = none)
    (done : ∀ (s' : Shared) (p : Addr) (out : List Value) (c : Nat) (ns : List Int), (∀ b o, s.heap.get? b = some o → s'.heap.get? b = some o) → s'.gens = s.gens → s'.os = s.os → s.heap.objs.size ≤ p →
      s'.heap.get? p = some (seqObj "list" out.toArray c) → IntsAre out ns → ns.Pairwise (· < ·) → (∀ k, k ∈ ns ↔ S k = true) → Q (.ref p) s') :
    wpAny (model P w) A (call (.builtin "sorted") [.ref a]) Q E s := by
  obtain ⟨o, es, ep, t, ho, ex, hd, good, nd, mem, few, fits, _, ris, led⟩ := R
  refine Calls.call_function_entry kind_sorted plain_sorted entry_sorted (args_sorted1 _) ?_
  unfold Builtin.«sorted»
  refine wpAny_bind (m := checkCount "sorted" 1 1 _) (wpAny_pure ?_)
  refine wpAny_bind (collect_set (A := A.in1) hh ⟨o, ho, ex.1, hd⟩ fits few ris led fun u vs keep fresh g1 o1 pm => ?_)
  have lv : vs.length ≤ sizeLine := by
    rw [pm.length_eq, List.length_map, Array.length_toList]
    exact Nat.le_trans (Nat.le_of_lt few) (by rw [sizeLine_eq]; unfold scanBound; omega)
  have ia : IntsAre vs (vs.map SrtO.iv) := SrtO.ints_iv fun v hv => by
    obtain ⟨e, he, q⟩ := List.mem_map.mp (pm.mem_iff.mp hv)
    obtain ⟨k, tk, h1, _⟩ := good e he
    exact ⟨k, tk, q.symm.trans h1⟩
  have keys : (vs.map SrtO.iv).Perm (es.toList.map keyOf) := by
    have q := pm.map SrtO.iv
    rw [List.map_map] at q
    rw [show es.toList.map keyOf = es.toList.map (SrtO.iv ∘ fun x => x.2) from List.map_congr_left fun e he => by
      obtain ⟨k, tk, h1, _⟩ := good e he
      obtain ⟨e1, e2⟩ := e
      simp only at h1
      subst h1
      rfl]
    exact q
  refine wpAny_bind (wpAny_newList ?_ lv)
  have atL : (u.heap.push (seqObj "list" vs.toArray 0)).get? u.heap.objs.size = some (seqObj "list" vs.toArray 0) := Heap.get?_push_size _ rfl
  refine wpAny_bind (wpAny_holding (wpAny_call_entry slot_list_sort ⟨_, atL, rfl⟩ entry_list_sort (SrtO.list_sort_ord SrtO.swo_int atL lv (fun h2 => SrtO.ints_sortable ia h2) fun out hs hb => ⟨_, rfl, ?_⟩) (args_list_sort _)))
  obtain ⟨k1, k2, k3⟩ := SrtO.ints_out ia hs hb
  obtain ⟨c, hc⟩ := sortedHeap_at (vs := vs) (out := out.toArray) atL
  have pn := k2.trans keys
  refine wpAny_pure ⟨_, rfl, done _ u.heap.objs.size out c (out.map SrtO.iv) (fun b z e => ?_) g1 o1 fresh hc k1 (lt_of_le_nodup _ k3 (pn.nodup_iff.mpr nd)) fun k => by rw [pn.mem_iff, ← mem k]⟩
  have lt := Heap.lt_size (keep b z e)
  show (sortedHeap (u.heap.push (seqObj "list" vs.toArray 0)) u.heap.objs.size vs out.toArray).get? b = some z
  rw [sortedHeap_old (Nat.ne_of_lt lt) (by rw [Heap.size_push]; exact Nat.lt_succ_of_lt lt)]
  exact Heap.get?_push_of_some _ (keep b z e)
end
/-- sorted(set(e)) -/
def tSortSet (K : PySem.W.Frag) (ta : TA) : TE := fun σ H Q => ta σ H fun vs H1 => ∃ (l : Addr) (ns : List Int), vs = [.ref l] ∧ SqL K H1 l (ns.map V.int) ∧ (∀ k ∈ ns, smallI k) ∧
  ∀ (ms : List Int) (p : Addr), ms.Pairwise (· < ·) → (∀ k, k ∈ ms ↔ k ∈ ns) → H1 p = none → Q (.ref p) (upd H1 p (.lst (ms.map V.int)))
theorem few_len {ms : List Int} (h : ms.Pairwise (· < ·)) (sm : ∀ k ∈ ms, smallI k) : ms.length ≤ 4000 := few_of 4000 ms (h.imp fun z => by omega) fun x hx => by have := sm x hx; unfold smallI at this; omega
section
variable {X : Cx} {e : Expr} {ta : TA} {p0 p1 p2 pos : Pos}
theorem pe_sortSet (hc : X.calm = true) (hg : Gl X "sorted") (hm : X.mg "sorted" = none) (hg2 : Gl X "set") (hm2 : X.mg "set" = none) (ha : PA X [e] ta) (hs : starEach [e] X.env = (false, eval e X.env) :: starEach [] X.env) :
    PE X (.Call (.Name "sorted" p0) [.Call (.Name "set" p1) [e] [] p2] [] pos) (tSortSet X.K ta) := by
  refine ⟨fun pins s σ H Q I h => ?_⟩
  refine wpAny_Call_Name_kw (ld_blt I hg hm boot_sorted ?_)
  refine PyProof.Rows.callWith_builtin1 ?_ (by rfl) (by rfl)
  show wpAny _ _ (spliced [(false, eval (.Call (.Name "set" p1) [e] [] p2) X.env)]) _ _ s
  refine Calls.spliced_cons (Call_ (ld_blt I hg2 hm2 PyProof.Rows.boot_set (PyProof.Rows.callWith_type1 (thn (ha.run p2 pins s σ H _ I h) fun us s1 ⟨vs, H1, I1, r1, q1⟩ => ?_) hs rfl)))
  obtain ⟨l, ns, rfl, hl, sm, q⟩ := q1
  cases r1 with
  | cons r rr =>
    cases rr
    cases r
    obtain ⟨its, rv, il, hz⟩ := I1.list hl
    have hd := I1.ok.hd hc
    refine set_of_list hd il.isList (show IntsAre its.toArray.toList ns from ints_of_vals rv) sm fun h' tk c hS hk => ?_
    refine Calls.spliced_nil (sort_of_set (s := { s1 with heap := h', toks := tk }) hS hd fun s' p out c' ms kp g o fr hp ia lt mm => ?_)
    have mm' : ∀ k, k ∈ ms ↔ k ∈ ns := fun k => by rw [mm k, decide_eq_true_eq]
    have k2 : ∀ b o, s1.heap.get? b = some o → s'.heap.get? b = some o := fun b o e => kp b o (hk b o e)
    have old : s1.heap.objs.size ≤ p := by
      obtain ⟨o1, _, _, _, e1, _⟩ := hS
      exact Nat.le_trans (Nat.le_of_lt (Heap.lt_size e1)) fr
    have hn : H1 p = none := I1.hok.fresh old
    have len : (ms.map V.int).length ≤ sizeLine := by
      rw [List.length_map, sizeLine_eq]
      exact Nat.le_trans (few_len lt fun k hk => sm k ((mm' k).mp hk)) (by omega)
    have J : Inv X pins σ (upd H1 p (.lst (ms.map V.int))) { s1 with heap := s'.heap, gens := s'.gens, drawn := s'.drawn, toks := s'.toks } :=
      I1.call (ch := []) (Un.laid k2 old hn) (I1.hok.laid k2 old ⟨len, out, c', vals_of_ints ia, hp⟩) (by rw [g]; exact I1.bare) (fun _ z => nomatch z)
    have e : s' = { s1 with heap := s'.heap, gens := s'.gens, drawn := s'.drawn, toks := s'.toks } := by
      cases s'
      cases o
      rfl
    rw [e]
    exact ⟨.ref p, _, J, rfl, q ms p lt mm' hn⟩
end
/-! ### E's side -/
/-- the small numbers of a list, each once, ascending -/
def setL (ns : List Int) : List Int := ((List.range 4000).map fun k : Nat => (k : Int)).filter fun k => decide (k ∈ ns)
theorem setL_lt (ns : List Int) : (setL ns).Pairwise (· < ·) := by
  unfold setL
  refine List.Pairwise.filter _ ?_
  rw [List.pairwise_map]
  exact List.pairwise_lt_range.imp fun h => by omega
theorem setL_mem {ns : List Int} (sm : ∀ k ∈ ns, smallI k) (k : Int) : k ∈ setL ns ↔ k ∈ ns := by
  unfold setL
  rw [List.mem_filter, decide_eq_true_eq]
  constructor
  · exact fun h => h.2
  · intro h
    refine ⟨?_, h⟩
    obtain ⟨h1, h2⟩ := sm k h
    exact List.mem_map.mpr ⟨k.toNat, List.mem_range.mpr (by omega), by omega⟩
theorem asc_eq : ∀ {as bs : List Int}, as.Pairwise (· < ·) → bs.Pairwise (· < ·) → (∀ k, k ∈ as ↔ k ∈ bs) → as = bs
  | [], [], _, _, _ => rfl
  | [], b :: bs, _, _, h => absurd ((h b).mpr (List.mem_cons_self ..)) (by simp)
  | a :: as, [], _, _, h => absurd ((h a).mp (List.mem_cons_self ..)) (by simp)
  | a :: as, b :: bs, ha, hb, h => by
    obtain ⟨a1, a2⟩ := List.pairwise_cons.mp ha
    obtain ⟨b1, b2⟩ := List.pairwise_cons.mp hb
    have e : a = b := by
      have h1 := (h a).mp (List.mem_cons_self ..)
      have h2 := (h b).mpr (List.mem_cons_self ..)
      rcases List.mem_cons.mp h1 with z | z
      · exact z
      · rcases List.mem_cons.mp h2 with y | y
        · exact y.symm
        · have := a1 b y; have := b1 a z; omega
    subst e
    rw [asc_eq a2 b2 fun k => ?_]
    constructor
    · intro z
      rcases List.mem_cons.mp ((h k).mp (List.mem_cons_of_mem _ z)) with y | y
      · have := a1 k z; omega
      · exact y
    · intro z
      rcases List.mem_cons.mp ((h k).mpr (List.mem_cons_of_mem _ z)) with y | y
      · have := b1 k z; omega
      · exact y
def smallB (k : Int) : Bool := decide (0 ≤ k) && decide (k < 4000)
def sortSetU (s : S) (h : Hd) : Option U := match seqOf s h with
  | some (false, us) => (match intsOf us with
    | some ns => if ns.all smallB = true then some (.lst ((setL ns).map U.int)) else none
    | none => none)
  | _ => none
def eSortSet (mh : M Hd) : M U := bnd mh fun h => look' fun s => sortSetU s h
section
variable {a : Act} {X : Cx} {Φ : Phi} {e : Expr} {mh : M Hd} {p0 p1 p2 pos : Pos}
theorem se_sortSet (hc : X.calm = true) (hg : Gl X "sorted") (hm : X.mg "sorted" = none) (hg2 : Gl X "set") (hm2 : X.mg "set" = none) (h : SH X a Φ e mh) (hK : X.K = a.K) (hs : starEach [e] X.env = (false, eval e X.env) :: starEach [] X.env) :
    SE X a Φ (.Call (.Name "sorted" p0) [.Call (.Name "set" p1) [e] [] p2] [] pos) (eSortSet mh) :=
  PE.imp (pe_sortSet hc hg hm hg2 hm2 (sa_one h hs) hs) fun σ H Q h => TR.one h fun w H s u x rx q => by
    obtain ⟨z, e, R, k⟩ := Sat.lk q
    unfold sortSetU at e
    split at e
    · rename_i us e1
      split at e
      · rename_i ns e2
        split at e
        · rename_i e3
          cases e
          obtain ⟨p, vs, rfl, r, sq⟩ := seq_spec R rx e1
          rw [intsOf_some e2] at r
          have hv := r.ints
          subst hv
          have sm : ∀ k ∈ ns, smallI k := fun k hk => by
            have z := List.all_eq_true.mp e3 k hk
            unfold smallB at z
            rw [Bool.and_eq_true, decide_eq_true_eq, decide_eq_true_eq] at z
            exact z
          refine ⟨p, ns, rfl, by rw [hK]; exact sq, sm, fun ms l lt mm hl => ?_⟩
          obtain rfl : ms = setL ns := asc_eq lt (setL_lt ns) fun k => by rw [mm k, setL_mem sm]
          exact k _ _ _ (Stp.new R hl) (R.new hl) (.lst (.inr rfl) upd_same (RUs.of_ints _))
        · cases e
      · cases e
    · cases e
end
end EL
set_option Elab.async false
set_option linter.all false
set_option maxRecDepth 100000
set_option maxHeartbeats 2000000
/-! ED16: {**d, k: v}, the keys plain. -/
namespace EL
open PySem PySem.Spec PyProof.Rows L2
section
variable {P : Program} {w : World} {A : Around} {E : Value → Shared → Prop} {s : Shared}
theorem put_pair {d : Addr} {kvs : List (Key × Value)} {k : Key} {key v : Value} {Q : Unit → Shared → Prop} (ik : (mixKind P w).is k key = true) (hd : s.heap.DictOf (mixKind P w) d kvs) (sz : kvs.length ≤ sizeLine)
    (fin : ∀ h', h'.DictOf (mixKind P w) d (stored kvs k v) → Heap.SameBut d s.heap h' → Q () { s with heap := h' }) : wpAny (model P w) A (dictPut d ((mixKind P w).hash k) key v) Q E s := by
  obtain ⟨o, es, ep, at_, ex, data, keys, prs, nd⟩ := hd
  have few : es.size ≤ sizeLine := by have e1 := prs.length; rw [Array.length_toList] at e1; omega
  have ix : (es.findIdx? fun e => (mixKind P w).is k e.key) = kvs.findIdx? fun kv => decide (kv.1 = k) := by rw [← prs.findIdx k]; cases es; simp
  unfold dictPut
  refine wpAny_bind (wpAny_dictFind_of ik at_ data keys ?_)
  cases hi : es.findIdx? fun e => (mixKind P w).is k e.key with
  | some i =>
    have yes : (kvs.any fun kv => decide (kv.1 = k)) = true := any_of_findIdx_some (ix ▸ hi)
    refine wpAny_updateDict at_ data (fin _ ⟨_, _, ep, Heap.get?_update_self _ at_ (Obj.isFreed_of_dict (Obj.data_mapDict data _)), ex.mapDict _, Obj.data_mapDict data _, keys.modify _ _, ?_, ?_⟩ (Heap.SameBut.update ..))
    · rw [stored, if_pos yes]
      have z := prs.modify nd (show es.toList.findIdx? (fun e => (mixKind P w).is k e.key) = some i by rw [← hi]; cases es; simp) v
      rw [Array.toList_modify]
      exact z
    · rw [stored, if_pos yes, keys_map_store]; exact nd
  | none =>
    have out : k ∉ kvs.map (·.1) := not_mem_of_findIdx_none (ix ▸ hi)
    have no : ¬ (kvs.any fun kv => decide (kv.1 = k)) = true := fun z => by
      obtain ⟨kv, m, e⟩ := List.any_eq_true.mp z
      exact out (List.mem_map.mpr ⟨kv, m, of_decide_eq_true e⟩)
    refine wpAny_updateDictKeys (hz := few) at_ data (fin _ ⟨_, _, ep + 1, Heap.get?_update_self _ at_ (Obj.isFreed_of_dict (Obj.data_mapDictKeys data _)), ex.mapDictKeys _, Obj.data_mapDictKeys data _, keys.push ik _, ?_, ?_⟩ (Heap.SameBut.update ..))
    · rw [stored, if_neg no]
      have z := prs.append ik ((mixKind P w).hash k) v
      rw [Array.toList_push]
      exact z
    · rw [stored, if_neg no, List.map_append, List.nodup_append]
      refine ⟨nd, by simp, fun a ha b hb e => ?_⟩
      simp only [List.map_cons, List.map_nil, List.mem_singleton] at hb
      exact out (hb ▸ e ▸ ha)
theorem merge_map {d a : Addr} {kvs more : List (Key × Value)} {Q : Unit → Shared → Prop} (ne : d ≠ a) (nm : (a == sysModules) = false) (hd : s.heap.DictOf (mixKind P w) d kvs) (ha : s.heap.DictOf (mixKind P w) a more) (sz : kvs.length + more.length ≤ sizeLine)
    (fin : ∀ h', h'.DictOf (mixKind P w) d (merged kvs more) → Heap.SameBut d s.heap h' → Q () { s with heap := h' }) : wpAny (model P w) A (mergeMapping d (.ref a) false) Q E s := by
  obtain ⟨o, es, ep, at_, ex, data, keys, prs, nd⟩ := id ha
  obtain ⟨o2, es2, ep2, at2, _, data2, _⟩ := id hd
  have ty : s.TypeIs (.ref a) "dict" := ha.typeIs
  have len : more.length = es.size := by rw [← prs.length]; simp
  have plain : ∀ e ∈ es.toList, ∀ z, e.key ≠ .ref z := fun e he z q => by
    obtain ⟨k, ik, _⟩ := keys e (by simpa using he)
    rw [q] at ik
    rcases keyIs_shape ik with ⟨i, t, _, y⟩ | ⟨x, t, _, y⟩ <;> cases y
  unfold mergeMapping
  refine wpAny_bind (wpAny_isInstance ty F.sub_dict_dict ?_)
  rw [if_pos rfl]
  refine wpAny_bind (wpAny_specialOf ty F.slot_dict_iter.lookup ?_)
  rw [show (some (Value.builtin "dict.__iter__") == some (Value.builtin "dict.__iter__")) = true from by decide]
  refine wpAny_bind (wpAny_pure ?_)
  have core : wpAny (model P w) A (do
      let l ← dictEntries a
      let epoch ← dictEpoch a
      forIn (List.range l.size) PUnit.unit fun i (_ : PUnit) => (do
          let l' ← dictEntries a
          match l'[i]? with
            | some e => do
              holding [e.key, e.val] (dictPut d e.hash e.key e.val)
              let ep' ← dictEpoch a
              if (ep' != epoch) = true then do
                  (unsupported "dict.changed-during-merge" : Sem PUnit)
                  pure (ForInStep.yield PUnit.unit)
                else pure (ForInStep.yield PUnit.unit)
            | _ => do
              (unsupported "dict.changed-during-merge" : Sem PUnit)
              pure (ForInStep.yield PUnit.unit) : Sem (ForInStep PUnit))
      pure ()) Q E s := by
    refine wpAny_bind (wpAny_dictEntries at_ data (wpAny_bind (wpAny_dictEpoch at_ data (wpAny_bind ?_))))
    refine wpAny_forIn_list _ (fun rest _ u => ∃ (h' : Heap) (i : Nat), u = { s with heap := h' } ∧ rest = List.range' i (es.size - i) ∧ i ≤ es.size ∧ h'.DictOf (mixKind P w) d (merged kvs (more.take i)) ∧ h'.get? a = some o ∧ Heap.SameBut d s.heap h') _ ?_ ?_ _ _ ⟨s.heap, 0, rfl, by simp [List.range_eq_range'], Nat.zero_le _, hd, at_, Heap.SameBut.refl _ _⟩
    · rintro x rest b u ⟨h', i, rfl, hr, hi, hd', at', sb⟩
      have lt : i < es.size := by
        rcases Nat.lt_or_ge i es.size with z | z
        · exact z
        · rw [Nat.sub_eq_zero_of_le z] at hr; cases hr
      rw [show es.size - i = (es.size - (i + 1)) + 1 by omega, List.range'_succ] at hr
      injection hr with h1 h2
      subst h1
      refine wpAny_bind (wpAny_dictEntries at' data ?_)
      rw [Array.getElem?_eq_getElem lt]
      obtain ⟨⟨k, v⟩, hkv⟩ : ∃ kv, more[x]? = some kv := ⟨more[x]'(by omega), List.getElem?_eq_getElem _⟩
      obtain ⟨ik, iv⟩ := prs.get? (e := es[x]) (by simp [lt]) hkv
      obtain ⟨k2, ik2, hh⟩ := keys es[x] (Array.getElem_mem lt)
      obtain rfl : k2 = k := (mixKind P w).inj _ _ _ ik2 ik
      show wpAny _ _ (holding [es[x].key, es[x].val] (dictPut d es[x].hash es[x].key es[x].val) >>= _) _ _ _
      rw [hh, iv]
      have sz2 : (merged kvs (more.take x)).length ≤ sizeLine := by
        have e1 := merged_length_le kvs (more.take x)
        rw [List.length_take] at e1
        omega
      refine wpAny_bind (wpAny_holding (put_pair ik hd' sz2 fun h2' hd2 sb2 => ?_))
      have at2' : h2'.get? a = some o := (sb2.2 a (Ne.symm ne)).trans at'
      refine wpAny_bind (wpAny_dictEpoch at2' data ?_)
      rw [if_neg (by simp)]
      exact wpAny_pure ⟨h2', x + 1, rfl, h2, lt, by rw [merged_take_succ kvs more x (k2, v) hkv]; exact hd2, at2', sb.trans sb2⟩
    · rintro b u ⟨h', i, rfl, hr, hi, hd', at', sb⟩
      have e : i = es.size := by
        rcases Nat.lt_or_ge i es.size with z | z
        · rw [show es.size - i = (es.size - (i + 1)) + 1 by omega, List.range'_succ] at hr; cases hr
        · omega
      rw [List.take_of_length_le (by omega)] at hd'
      exact wpAny_pure (fin h' hd' sb)
  dsimp only
  rw [if_neg (by rw [nm]; exact Bool.false_ne_true)]
  refine wpAny_bind (wpAny_dictEntries at2 data2 ?_)
  by_cases em : es2.isEmpty = true
  · rw [if_pos em]
    refine wpAny_bind (wpAny_dictEntries at_ data (wpAny_bind ?_))
    refine wpAny_forIn_array' _ (fun rest _ u => u = s ∧ ∀ e ∈ rest, e ∈ es.toList) _ ?_ ?_ _ _ ⟨rfl, fun e he => he⟩
    · rintro e rest b u ⟨rfl, all⟩
      have np := plain e (all e (List.mem_cons_self ..))
      have go : ∀ v : Value, e.key = v → wpAny (model P w) A (match v with
          | Value.ref _ => (do
              let r ← specialOf e.key "__eq__"
              if (r != some (Value.builtin "object.__eq__")) = true then
                  if (Array.filter (fun x => x.hash == e.hash) es).size > 1 then do
                    unsupported "dict.merge-into-an-empty-dict:keys-of-equal-hash"
                    pure (ForInStep.yield PUnit.unit)
                  else pure (ForInStep.yield PUnit.unit)
                else pure (ForInStep.yield PUnit.unit) : Sem (ForInStep PUnit))
          | _ => pure (ForInStep.yield PUnit.unit)) (fun r u' => match r with
            | .yield b' => u' = u ∧ ∀ e ∈ rest, e ∈ es.toList
            | .done b' => False) E u := fun v hv => by
        cases v <;> first | exact wpAny_pure ⟨rfl, fun z hz => all z (List.mem_cons_of_mem _ hz)⟩ | exact (np _ hv).elim
      refine wpAny_mono (go e.key rfl) (fun r u' q => ?_) fun _ _ z => z
      cases r with
      | yield _ => exact q
      | done _ => exact q.elim
    · rintro b u ⟨rfl, _⟩
      exact core
  · rw [if_neg em]
    exact core
end
section
variable {X : Cx} {pins : List (Addr × Obj)} {σ σ0 : L2.St} {H H0 : Hp} {s s0 : Shared}
/-- an object that was made on the way, tracked at last -/
theorem Inv.track {o : HO} {h' : Heap} {t' : Nat} (I0 : Inv X pins σ0 H0 s0) (I : Inv X pins σ H s) (hn : H s0.heap.objs.size = none) (k : ∀ b u, b ≠ s0.heap.objs.size → s.heap.get? b = some u → h'.get? b = some u) (th : ∃ u, h'.get? s0.heap.objs.size = some u)
    (new : ObjOk X.prog X.w (upd H s0.heap.objs.size o) h' s0.heap.objs.size o) : Inv X pins σ (upd H s0.heap.objs.size o) { s with heap := h', toks := t' } := by
  have nit : ∀ b u, H b = some u → b ≠ s0.heap.objs.size := fun b u e z => by rw [z, hn] at e; cases e
  refine I.step (g' := s.gens) (d' := s.drawn) (ch := [s0.heap.objs.size]) (fun b hb => ?_) (fun b o _ _ hc e _ => k b o (fun z => hc (by simp [z])) e) (fun b o _ _ hc e _ => ⟨o.slots, k b o (fun z => hc (by simp [z])) e⟩) (fun b u hc _ n => (upd_ne fun z => hc (by simp [z])).trans n)
    (fun b o hc e => ⟨o, k b o (fun z => hc (by simp [z])) e⟩) (fun b _ e => (upd_ne (nit b _ e)).trans e) (fun b _ _ e => (upd_ne (nit b _ e)).trans e) (fun b ps e => ⟨#[], by rw [upd_ne (nit b _ e), e]; simp⟩) (fun m hm => ?_) (fun b u e => ?_) I.bare
  · obtain rfl : b = s0.heap.objs.size := by simpa using hb
    refine ⟨.inr I0.sz, Nat.ne_of_gt I0.lt, fun x c e z => ?_, fun p hp z => ?_⟩
    · obtain ⟨v, o, ho, _⟩ := I0.cell x c e
      exact absurd (Heap.lt_size ho) (by rw [z]; exact Nat.lt_irrefl _)
    · exact absurd (Heap.lt_size (I0.pin p hp).1) (by rw [z]; exact Nat.lt_irrefl _)
  · obtain ⟨o, es, ep, ho, r⟩ := hm
    exact ⟨o, es, ep, k _ o (Nat.ne_of_lt I0.lt) ho, r⟩
  · by_cases hb : b = s0.heap.objs.size
    · subst hb; rw [upd_same] at e; cases e; exact new
    · rw [upd_ne hb] at e
      refine (I.hok b u e).stay (fun c v hc q => k c v ?_ q) (fun c q => by rw [upd_ne (nit c _ q)]; exact q) fun c xs q => by rw [upd_ne (nit c _ q)]; exact q
      rcases hc with z | z
      · rw [z]; exact hb
      · exact nit c _ z
end
abbrev emptyD : Obj := { cls := .type "dict", data := .dict #[] }
theorem emptyD_of {P : Program} {w : World} {h : Heap} {p : Addr} (e : h.get? p = some emptyD) : h.DictOf (mixKind P w) p [] := ⟨_, #[], 0, e, ⟨rfl, rfl, rfl⟩, rfl, fun x hx => by simp at hx, .nil, List.nodup_nil⟩
/-- {**d, k: v} -/
def tMerge (td tk tv : TE) : TE := fun σ H Q => td σ H fun x H1 => ∃ (a : Addr) (kvs : List (Key × V)), x = .ref a ∧ Rd H1 a (.dK kvs) ∧ kvs.length < sizeLine ∧ tk σ H1 fun y H2 => tv σ H2 fun z H3 => ∃ k : Key, y = kV k ∧ ∀ p, H3 p = none → Q (.ref p) (upd H3 p (.dK (mergeK [] (kvs ++ [(k, z)]))))
theorem mergeK_app (as bs : List (Key × V)) (cs : List (Key × V)) : mergeK cs (as ++ bs) = mergeK (mergeK cs as) bs := by unfold mergeK; rw [List.foldl_append]
section
variable {X : Cx} {de ke ve : Expr} {td tk tv : TE} {pos : Pos}
theorem pe_merge (hd : PE X de td) (hk : PE X ke tk) (hv : PE X ve tv) : PE X (.Dict [none, some ke] [de, ve] pos) (tMerge td tk tv) := by
  refine ⟨fun pins s σ H Q I q => ?_⟩
  rw [arm_eval_Dict]
  show wpAny _ _ (do
    standAt pos
    dictDisplay [(none, (do let x ← eval de X.env; standAt pos; pure x)), (some (eval ke X.env), (do let x ← eval ve X.env; standAt pos; pure x))]) _ _ s
  refine wpAny_bind (wpAny_standAt ?_)
  unfold dictDisplay
  simp only [List.forIn_cons, List.forIn_nil, bind_assoc, pure_bind, List.isEmpty_nil, if_true, List.nil_append, List.length_singleton]
  refine wpAny_bind (wpAny_alloc ?_)
  have at0 : (s.heap.push emptyD).get? s.heap.objs.size = some emptyD := Heap.get?_push_size _ rfl
  have J0 : Inv X ((s.heap.objs.size, emptyD) :: pins) σ H { s with heap := s.heap.push emptyD, toks := s.toks } := ClX.pin_new I (fun b u e => Heap.get?_push_of_some _ e) (Nat.le_refl _) at0 (fun v z => nomatch z)
  refine wpAny_bind (wpAny_holding ?_)
  refine wpAny_bind (thn (hd.run _ _ σ H _ J0 q) fun u s1 ⟨x, H1, I1, rx, q⟩ => ?_)
  refine wpAny_bind (wpAny_standAt (wpAny_pure ?_))
  obtain ⟨a, kvs, rfl, hr, small, q⟩ := q
  obtain rfl : u = Value.ref a := rx
  -- the first merge
  have p1 := ClX.pin_at I1
  have n1 := ClX.pin_un I1
  obtain ⟨z1, nm, vs, rv, da⟩ := dk_rd I1.hok hr
  have ne : s.heap.objs.size ≠ a := fun z => by
    rw [z] at n1
    rcases hr with y | ⟨o, y⟩ <;> (rw [n1] at y; cases y)
  have lv : vs.length = kvs.length := (Paired.length rv).symm
  refine wpAny_bind (wpAny_onRaise (wpAny_tryCatch (wpAny_onRaise (wpAny_holding (merge_map ne nm (emptyD_of p1) da (by rw [lv]; simpa using z1) fun h1 d1 sb1 => ?_)))))
  obtain ⟨o1, ho1⟩ : ∃ o, h1.get? s.heap.objs.size = some o := let ⟨o, _, _, e, _⟩ := d1; ⟨o, e⟩
  have nc1 : ∀ v, o1.data ≠ .cell v := fun v y => by
    obtain ⟨o, es, ep, e, _, dd, _⟩ := d1
    rw [ho1] at e; cases e; rw [dd] at y; cases y
  have k1 : ∀ b u, b ≠ s.heap.objs.size → s1.heap.get? b = some u → h1.get? b = some u := fun b u hb e => (sb1.2 b hb).trans e
  have F1 := I.fpOk (H' := H1) (Nat.le_refl _) n1
  have J1 : Inv X ((s.heap.objs.size, o1) :: pins) σ H1 { s1 with heap := h1 } := by
    have T := (ClX.unpin I1).turned (h' := h1) (t' := s1.toks) (it := s.heap.objs.size) k1 F1.1 F1.2.1 F1.2.2.2.1 F1.2.2.2.2.1 F1.2.2.2.2.2
    refine T.pins_of fun r hr2 => ?_
    rcases List.mem_cons.mp hr2 with e | e
    · subst e
      exact ⟨ho1, n1, F1.2.1, F1.2.2.1, nc1⟩
    · exact T.pin r (List.mem_append_right _ e)
  -- the pair
  rw [if_neg (by decide)]
  simp only [pure_bind, List.isEmpty_cons, Bool.false_eq_true, if_false]
  refine wpAny_bind (wpAny_bind (wpAny_holding ?_))
  refine wpAny_subDict (knd := mixKind X.prog X.w) (by simp) (evalPairs_cons ?_)
  have at2 : (h1.push emptyD).get? h1.objs.size = some emptyD := Heap.get?_push_size _ rfl
  have J2 : Inv X ((h1.objs.size, emptyD) :: (s.heap.objs.size, o1) :: pins) σ H1 { s1 with heap := h1.push emptyD, toks := s1.toks } := ClX.pin_new (s := { s1 with heap := h1 }) J1 (fun b u e => Heap.get?_push_of_some _ e) (Nat.le_refl _) at2 (fun v z => nomatch z)
  refine thn (hk.run _ _ σ H1 _ J2 q) fun u2 s2 ⟨y, H2, I2, ry, q⟩ => ?_
  refine wpAny_bind (thn (hv.run _ _ σ H2 _ I2 q) fun u3 s3 ⟨z, H3, I3, rz, q'⟩ => ?_)
  refine wpAny_bind (wpAny_standAt (wpAny_pure (evalPairs_nil ?_)))
  obtain ⟨k, rfl, q'⟩ := q'
  have ik : (mixKind X.prog X.w).is k u2 = true := kV_is ry
  have q3 := ClX.pin_at I3
  have p3 := ClX.pin_at (ClX.unpin I3)
  have n3 := ClX.pin_un (ClX.unpin I3)
  have nq : s.heap.objs.size ≠ h1.objs.size := Nat.ne_of_lt (Heap.lt_size ho1)
  refine ⟨[(k, u3)], ⟨ik, rfl, True.intro⟩, emptyD_of q3, fun h2 d2 sb2 => ?_⟩
  have d1' : h2.DictOf (mixKind X.prog X.w) s.heap.objs.size (merged [] vs) := by
    obtain ⟨o, es, ep, e, r⟩ := d1
    rw [ho1] at e; cases e
    exact ⟨o1, es, ep, (sb2.2 _ nq).trans p3, r⟩
  have nm2 : (h1.objs.size == sysModules) = false := beq_eq_false_iff_ne.mpr (Ne.symm (Nat.ne_of_lt (Nat.lt_of_lt_of_le I.big (Nat.le_of_lt (Heap.lt_size ho1)))))
  have lm := merged_length_le [] vs
  refine wpAny_bind (wpAny_onRaise (wpAny_holding (merge_map nq nm2 d1' d2 (by
    have e1 : (merged ([] : List (Key × Value)) [(k, u3)]).length ≤ 1 := merged_length_le [] [(k, u3)]
    simp only [List.length_nil] at lm
    omega) fun h3 d3 sb3 => wpAny_pure ?_)))
  have fin : merged (merged [] vs) (merged [] [(k, u3)]) = merged [] (vs ++ [(k, u3)]) := by
    unfold merged
    rw [List.foldl_append]
    rfl
  rw [fin] at d3
  have I4 : Inv X pins σ H3 { s3 with heap := h2, toks := s3.toks + 1 } := by
    have F2 := J1.fpOk (H' := H3) (Nat.le_refl _) (ClX.pin_un I3)
    exact (ClX.unpin (ClX.unpin I3)).turned (it := h1.objs.size) (fun b u hb e => (sb2.2 b hb).trans e) F2.1 F2.2.1 F2.2.2.2.1 F2.2.2.2.2.1 fun p hp => F2.2.2.2.2.2 p (by
      rcases List.mem_append.mp hp with z | z
      · exact List.mem_append_left _ z
      · exact List.mem_append_right _ (List.mem_cons_of_mem _ z))
  have rel : KV (mergeK [] (kvs ++ [(k, z)])) (merged [] (vs ++ [(k, u3)])) := KV.merge (Paired.snoc rv ⟨rfl, rz⟩) .nil
  have len : (mergeK ([] : List (Key × V)) (kvs ++ [(k, z)])).length ≤ sizeLine := by
    have := length_mergeK (kvs ++ [(k, z)]) []
    rw [List.length_append, List.length_nil, List.length_singleton] at this
    omega
  have nm3 : (s.heap.objs.size == sysModules) = false := beq_eq_false_iff_ne.mpr (Ne.symm (Nat.ne_of_lt I.big))
  refine wpAny_pure ⟨.ref s.heap.objs.size, _, Inv.track (s := { s3 with heap := h2, toks := s3.toks + 1 }) (t' := s3.toks + 1) I I4 n3 (fun b u hb e => (sb3.2 b hb).trans e) (let ⟨o, _, _, e, _⟩ := d3; ⟨o, e⟩) (dk_new len nm3 rel d3), rfl, q' _ n3⟩
end
/-! ### E's side -/
/-- entries stored in turn, plain keys -/
def putsK : List (U × U) → List (U × U) → Option (List (U × U))
  | acc, [] => some acc
  | acc, (k, v) :: r => (put false acc k v).bind fun acc => putsK acc r
theorem RKs.puts {K : PySem.W.Frag} {cls : Cl} {w : W} {H : Hp} : ∀ {us : List (U × U)} {acc res : List (U × U)} {ks ka : List (Key × V)}, RKs K cls w H acc ka → RKs K cls w H us ks → putsK acc us = some res → RKs K cls w H res (mergeK ka ks)
  | _, _, _, _, _, ra, .nil, e => by cases e; exact ra
  | _, _, _, _, _, ra, .cons (k := k) (us := us) ru t, e => by
    unfold putsK EL.put at e
    split at e
    · simp only [Bool.false_eq_true, if_false, toK_kU, Option.map_some, Option.bind_some] at e
      have z := RKs.puts (RKs.put ru ra) t e
      exact z
    · cases e
theorem RKs.snoc {K : PySem.W.Frag} {cls : Cl} {w : W} {H : Hp} {k : Key} {u : U} {v : V} (r : RU K cls w H u v) : ∀ {us : List (U × U)} {ks : List (Key × V)}, RKs K cls w H us ks → RKs K cls w H (us ++ [(kU k, u)]) (ks ++ [(k, v)])
  | _, _, .nil => .cons r .nil
  | _, _, .cons q t => .cons q (RKs.snoc r t)
def kvsK (s : S) (h : Hd) : Option (List (U × U)) := match dicOf s h with
  | some (false, kvs) => if kvs.length < line then some kvs else none
  | _ => none
/-- {**d, k: v} -/
def oMerge (md : M Hd) (mk mv : M U) : M SV := bnd md fun h => bnd (look' fun s => kvsK s h) fun kvs => bnd mk fun k => bnd mv fun v => ofO (match toK k with
  | some _ => (putsK [] (kvs ++ [(k, v)])).map (SV.od false)
  | none => none)
section
variable {a : Act} {X : Cx} {Φ : Phi} {de ke ve : Expr} {md : M Hd} {mk mv : M U} {pos : Pos}
theorem so_merge (hd : SH X a Φ de md) (hk : SE X a Φ ke mk) (hv : SE X a Φ ve mv) : SO X a Φ (.Dict [none, some ke] [de, ve] pos) (oMerge md mk mv) :=
  PE.imp (pe_merge hd hk hv) fun σ H Q q => TRO.one q fun w H s h x rx R k => by
    unfold bnd at k
    cases e : (look' fun s => kvsK s h) Φ s with
    | none => rw [e] at k; exact k.elim
    | some z =>
      rw [e] at k
      unfold look' at e
      dsimp only at e
      cases e1 : kvsK s h with
      | none => rw [e1] at e; cases e
      | some kvs =>
        rw [e1] at e
        cases e
        dsimp only at k
        unfold kvsK at e1
        split at e1
        · rename_i kvs' q1
          split at e1
          · rename_i hl
            cases e1
            obtain ⟨p, rfl, d⟩ := dic_spec R rx q1
            cases d with
            | @k _ ks f r =>
              refine ⟨p, ks, rfl, f, by rw [← r.length]; exact hl, ?_⟩
              refine ⟨w, s, R, ?_⟩
              cases e2 : mk Φ s with
              | none => rw [e2] at k; exact k
              | some z2 =>
                rw [e2] at k
                cases z2 with
                | ex c g v s2 => exact k
                | ok u s2 =>
                  intro w1 H1 y st1 R1 ru
                  refine ⟨w1, s2, R1, ?_⟩
                  dsimp only at k
                  cases e3 : mv Φ s2 with
                  | none => rw [e3] at k; exact k
                  | some z3 =>
                    rw [e3] at k
                    cases z3 with
                    | ex c g v s3 => exact XOut.step k st1
                    | ok v s3 =>
                      intro w2 H2 z st2 R2 rv
                      unfold ofO at k
                      dsimp only at k
                      cases e4 : toK u with
                      | none => rw [e4] at k; exact k.elim
                      | some kk =>
                        rw [e4] at k
                        dsimp only at k
                        cases e5 : putsK [] (kvs ++ [(u, v)]) with
                        | none => rw [e5] at k; exact k.elim
                        | some res =>
                          rw [e5] at k
                          dsimp only [Option.map_some] at k
                          have st : Stp w H w2 H2 := st1.trans st2
                          obtain ⟨rfl, hu⟩ := toK_some (ru.mono st2) e4
                          refine ⟨kk, rfl, fun p' hp => ?_⟩
                          rw [hu] at e5
                          have rr := RKs.puts .nil (RKs.snoc (k := kk) rv (r.mono st)) e5
                          have st3 : Stp w2 H2 w2 (upd H2 p' (.dK (mergeK [] (ks ++ [(kk, z)])))) := ⟨fun _ h => h, fun _ _ h => h, fun x hx => upd_ne fun y => R2.frz x hx (by rw [y]; exact hp)⟩
                          obtain ⟨P, _⟩ := R2.pend (sv := .od false res) (o := .dK (mergeK [] (ks ++ [(kk, z)]))) hp rfl ⟨p', rfl, .dicK upd_same (rr.mono st3)⟩
                          exact k w2 _ p' (st.trans st3) P
          · cases e1
        · cases e1
end
/-! ### {k: v, ..} -/
def tDispU (trs : List (TE × TE)) : TE := fun σ H Q => tPairs trs σ H fun ps H2 => ∃ kvs : List (Key × V), ps = kvs.map (fun kv => (kV kv.1, kv.2)) ∧ kvs.length ≤ 15 ∧ ∀ p, H2 p = none → Q (.ref p) (upd H2 p (.dK (mergeK [] kvs)))
theorem pe_dispU {X : Cx} {pos : Pos} {keys : List (Option Expr)} {values : List Expr} {trs : List (TE × TE)} (h : PPs X pos keys values trs) (hall : keys.all (·.isSome) = true) (hl : keys.length = values.length) (h0 : keys ≠ []) (h15 : keys.length ≤ 15) : PE X (.Dict keys values pos) (tDispU trs) := by
  refine ⟨fun pins s σ H Q I q => ?_⟩
  have at0 : (s.heap.push emptyD).get? s.heap.objs.size = some emptyD := Heap.get?_push_size _ rfl
  have J0 : Inv X ((s.heap.objs.size, emptyD) :: pins) σ H { s with heap := s.heap.push emptyD, toks := s.toks } := ClX.pin_new I (fun b u e => Heap.get?_push_of_some _ e) (Nat.le_refl _) at0 (fun v z => nomatch z)
  refine wpAny_Dict_walk (knd := mixKind X.prog X.w) hall hl h0 h15 (thn (h.run _ _ σ _ _ J0 q) fun ws s2 ⟨ps, H2, I2, rel, kvs, ep, lk, q2⟩ => ?_)
  subst ep
  obtain ⟨rs, c, rk⟩ := carries_of (P := X.prog) (w := X.w) rel
  have n2 := ClX.pin_un I2
  refine ⟨rs, c, emptyD_of (ClX.pin_at I2), fun h' dd sb => ⟨.ref s.heap.objs.size, _, Inv.track (t' := s2.toks + ws.length) I (ClX.unpin I2) n2 (fun b u hb e => (sb.2 b hb).trans e) (let ⟨o, _, _, e, _⟩ := dd; ⟨o, e⟩) (dk_new ?_ (beq_eq_false_iff_ne.mpr (Ne.symm (Nat.ne_of_lt I.big))) (rk.merge .nil) dd), rfl, q2 _ n2⟩⟩
  have := length_mergeK kvs []
  rw [List.length_nil] at this
  rw [sizeLine_eq]; omega
def pNil : M (List (U × U)) := ret []
def pCons (mk mv : M U) (mr : M (List (U × U))) : M (List (U × U)) := bnd mk fun k => bnd mv fun v => bnd mr fun r => ret ((k, v) :: r)
def keysOk (us : List (U × U)) : Bool := us.all fun e => (toK e.1).isSome
def oDisp (mp : M (List (U × U))) : M SV := bnd mp fun us => ofO (if keysOk us = true ∧ us.length ≤ 15 then (putsK [] us).map (SV.od false) else none)
inductive RPs (K : PySem.W.Frag) (cls : Cl) (w : W) (H : Hp) : List (U × U) → List (V × V) → Prop
  | nil : RPs K cls w H [] []
  | cons {k v : U} {x y : V} {us : List (U × U)} {vs : List (V × V)} : RU K cls w H k x → RU K cls w H v y → RPs K cls w H us vs → RPs K cls w H ((k, v) :: us) ((x, y) :: vs)
theorem RPs.mono {K : PySem.W.Frag} {cls : Cl} {w w' : W} {H H' : Hp} (st : Stp w H w' H') : ∀ {us : List (U × U)} {vs : List (V × V)}, RPs K cls w H us vs → RPs K cls w' H' us vs
  | _, _, .nil => .nil
  | _, _, .cons a b t => .cons (a.mono st) (b.mono st) (RPs.mono st t)
theorem RPs.keys {K : PySem.W.Frag} {cls : Cl} {w : W} {H : Hp} : ∀ {us : List (U × U)} {ps : List (V × V)}, RPs K cls w H us ps → keysOk us = true → ∃ kvs : List (Key × V), ps = kvs.map (fun kv => (kV kv.1, kv.2)) ∧ RKs K cls w H us kvs
  | _, _, .nil, _ => ⟨[], rfl, .nil⟩
  | _, _, .cons (k := k) (y := y) a b t, h => by
    unfold keysOk at h
    rw [List.all_cons, Bool.and_eq_true] at h
    obtain ⟨kvs, rfl, r⟩ := RPs.keys t h.2
    cases e : toK k with
    | none => rw [e] at h; cases h.1
    | some kk =>
      obtain ⟨rfl, rfl⟩ := toK_some a e
      exact ⟨(kk, y) :: kvs, rfl, .cons b r⟩
abbrev relPs (a : Act) : W → Hp → List (U × U) → List (V × V) → Prop := fun w H us vs => RPs a.K a.cls w H us vs
/-- pairs of a display: from what the E term gives on -/
def SPr (X : Cx) (a : Act) (Φ : Phi) (pos : Pos) (keys : List (Option Expr)) (values : List Expr) (m : M (List (U × U))) : Prop :=
  ∃ trs, PPs X pos keys values trs ∧ ∀ (σ : L2.St) (H : Hp) (Q : List (V × V) → Hp → Prop), TR a Φ m (relPs a) σ H Q → tPairs trs σ H Q
section
variable {a : Act} {X : Cx} {Φ : Phi} {pos : Pos}
theorem sp_nil : SPr X a Φ pos [] [] pNil := ⟨[], pps_nil, fun σ H Q ⟨w, s, R, h⟩ => h w H [] Stp.refl R .nil⟩
theorem sp_cons {k v : Expr} {ks : List (Option Expr)} {vs : List Expr} {mk mv : M U} {mr : M (List (U × U))} (hk : SE X a Φ k mk) (hv : SE X a Φ v mv) (hr : SPr X a Φ pos ks vs mr) : SPr X a Φ pos (some k :: ks) (v :: vs) (pCons mk mv mr) := by
  obtain ⟨trs, h, im⟩ := hr
  refine ⟨_, pps_cons hk hv h, fun σ H Q ⟨w, s, R, q⟩ => ?_⟩
  unfold pCons bnd at q
  refine ⟨w, s, R, ?_⟩
  cases e1 : mk Φ s with
  | none => rw [e1] at q; exact q
  | some z1 =>
    rw [e1] at q
    cases z1 with
    | ex c g v s2 => exact q
    | ok u s2 =>
      intro w1 H1 x st1 R1 ru
      refine ⟨w1, s2, R1, ?_⟩
      dsimp only at q
      cases e2 : mv Φ s2 with
      | none => rw [e2] at q; exact q
      | some z2 =>
        rw [e2] at q
        cases z2 with
        | ex c g v s3 => exact XOut.step q st1
        | ok v s3 =>
          intro w2 H2 y st2 R2 rv
          refine im σ H2 _ ⟨w2, s3, R2, ?_⟩
          dsimp only at q
          cases e3 : mr Φ s3 with
          | none => rw [e3] at q; exact q
          | some z3 =>
            rw [e3] at q
            cases z3 with
            | ex c g v s4 => exact XOut.step q (st1.trans st2)
            | ok r s4 =>
              intro w3 H3 ps st3 R3 rp
              exact q w3 H3 _ ((st1.trans st2).trans st3) R3 (.cons ((ru.mono st2).mono st3) (rv.mono st3) rp)
theorem so_disp {keys : List (Option Expr)} {values : List Expr} {mp : M (List (U × U))} (h : SPr X a Φ pos keys values mp) (hall : keys.all (·.isSome) = true) (hl : keys.length = values.length) (h0 : keys ≠ []) (h15 : keys.length ≤ 15) : SO X a Φ (.Dict keys values pos) (oDisp mp) := by
  obtain ⟨trs, hp, im⟩ := h
  refine PE.imp (pe_dispU hp hall hl h0 h15) fun σ H Q q => im σ H _ (TRO.one q fun w H s us ps r R k => ?_)
  unfold ofO at k
  by_cases ok : keysOk us = true ∧ us.length ≤ 15
  · rw [if_pos ok] at k
    obtain ⟨kvs, rfl, rk⟩ := r.keys ok.1
    cases e : putsK [] us with
    | none => rw [e] at k; exact k.elim
    | some res =>
      rw [e] at k
      refine ⟨kvs, rfl, by rw [← rk.length]; exact ok.2, fun p hp => ?_⟩
      have rr := RKs.puts .nil rk e
      have st3 : Stp w H w (upd H p (.dK (mergeK [] kvs))) := ⟨fun _ h => h, fun _ _ h => h, fun x hx => upd_ne fun y => R.frz x hx (by rw [y]; exact hp)⟩
      obtain ⟨P, _⟩ := R.pend (sv := .od false res) (o := .dK (mergeK [] kvs)) hp rfl ⟨p, rfl, .dicK upd_same (rr.mono st3)⟩
      exact k w _ p st3 P
  · rw [if_neg ok] at k; exact k.elim
end
end EL
set_option Elab.async false
set_option linter.all false
set_option maxRecDepth 100000
/-! ED17: l.index(x), sum(l), reversed(l). -/
namespace EL
open PySem PySem.Spec PyProof.Rows L2
/-- l.index(x) -/
def indexU (s : S) (h : Hd) (u : U) : Option U := match seqOf s h with
  | some (false, us) => (match toS (.lst us), toS u with
    | some (.list ds), some d => (ds.findIdx? fun z => PyData.eqv z d).map fun j => .int (j : Nat)
    | _, _ => none)
  | _ => none
def lsB (s : S) (h : Hd) : Option (List U) := match seqOf s h with
  | some (false, us) => some us
  | _ => none
def eIndex (mh : M Hd) (m : M U) : M U := bnd mh fun h => chk (fun s => lsB s h) (bnd m fun u => look' fun s => indexU s h u)
/-- sum(l) -/
def sumU (s : S) (h : Hd) : Option U := match seqOf s h with
  | some (false, us) => (intsOf us).map fun ns => .int ns.sum
  | _ => none
def eSum (mh : M Hd) : M U := bnd mh fun h => look' fun s => sumU s h
/-- reversed(l) -/
def revU : U → Option (List U)
  | .tup us => some us.reverse
  | .lst us => some us.reverse
  | _ => none
def iRevU (m : M U) : M (List U) := bnd m fun u => ofO (revU u)
section
variable {a : Act} {X : Cx} {Φ : Phi} {e e1 e2 : Expr} {mh : M Hd} {m : M U} {p pos apos cpos : Pos}
theorem se_sum (hc : X.calm = true) (hg : Gl X "sum") (hm : X.mg "sum" = none) (h : SH X a Φ e mh) (hK : X.K = a.K) (hs : starEach [e] X.env = (false, eval e X.env) :: starEach [] X.env) : SE X a Φ (.Call (.Name "sum" p) [e] [] pos) (eSum mh) :=
  PE.imp (pe_callB (cr_sum hc) hg hm (by decide +kernel) (sa_one h hs) (by decide) (by decide) hs rfl) fun σ H Q h => TR.one h fun w H s u x rx q => by
    obtain ⟨z, e, R, k⟩ := Sat.lk q
    unfold sumU at e
    split at e
    · rename_i us e1
      cases e2 : intsOf us with
      | none => rw [e2] at e; cases e
      | some ns =>
        rw [e2] at e
        cases e
        obtain ⟨p, vs, rfl, r, sq⟩ := seq_spec R rx e1
        rw [intsOf_some e2] at r
        have hv := r.ints
        subst hv
        exact ⟨p, ns, rfl, by rw [hK]; exact sq, Out.now k R (.int _)⟩
    · cases e
theorem dpAll_lst {K : PySem.W.Frag} {H : Hp} {b : Addr} {vs : List V} {ds : List PyData} (s : SqL K H b vs) (d : DpAll K H vs ds) : Dp K H (.ref b) (.list ds) := .lst s d
theorem se_index (hu : X.A.units + 65 < cLine) (hK : X.K = a.K) (h1 : SH X a Φ e1 mh) (h2 : SE X a Φ e2 m) (hbase : attributeBase e1 "index" X.env (eval e1 X.env) = eval e1 X.env)
    (hline : (apos.endLine == cpos.line) = true) (hs : starEach [e2] X.env = (false, eval e2 X.env) :: starEach [] X.env) : SE X a Φ (.Call (.Attribute e1 "index" apos) [e2] [] cpos) (eIndex mh m) :=
  PE.imp (pe_bm PySem.F.plainAttrs_list PySem.F.slot_list_index PySem.F.type_list_index (mt_indexD hu) h1 (pa_cons h2 pa_nil hs) hbase (by rw [hs]; rfl) hline hs rfl) fun σ H Q q => TR.one q fun w H s h x rx k => by
    obtain ⟨⟨us, e⟩, k⟩ := Sat.chk k
    unfold lsB at e
    split at e
    · rename_i us' e0
      cases e
      obtain ⟨p, vs, rfl, r, sq⟩ := seq_spec k.1 rx e0
      rw [hK]
      refine ⟨.inl ⟨rfl, vs, sq⟩, Sat.bndT k fun w2 H2 s2 u y st ru k2 => ?_⟩
      obtain ⟨z, e2, R, k3⟩ := Sat.lk k2
      unfold indexU at e2
      split at e2
      · rename_i us2 e3
        split at e2
        · rename_i ds d h1 h2
          cases e4 : ds.findIdx? fun z => PyData.eqv z d with
          | none => rw [e4] at e2; cases e2
          | some j =>
            rw [e4] at e2
            cases e2
            obtain ⟨p', vs2, ep, r2, sq2⟩ := seq_spec R (rx.mono st) e3
            cases ep
            obtain ⟨h3, h4⟩ := toS_some h1
            have h5 : toDs us2 = some ds := by
              simp only [toD] at h3
              cases q : toDs us2 with
              | none => rw [q] at h3; cases h3
              | some z => rw [q] at h3; cases h3; rfl
            obtain ⟨hj, p1, p2⟩ := List.findIdx?_eq_some_iff_getElem.mp e4
            refine ⟨p, y, d, ds, j, ds[j], rfl, rfl, .lst sq2 (r2.dp h5), ru.dp (toS_some h2).1, h4, (toS_some h2).2, List.getElem?_eq_getElem hj, p1, fun m z' hm hz => ?_, Out.now k3 R (.int _)⟩
            have hm2 : m < ds.length := by omega
            rw [List.getElem?_eq_getElem hm2] at hz
            cases hz
            have := p2 m hm
            simpa using this
        · cases e2
      · cases e2
    · cases e
theorem rev_at {α : Type} {vs : List α} {i : Nat} {x : α} (hi : i < vs.length) (h : vs[vs.length - 1 - i]? = some x) : vs.reverse[i]? = some x := by
  rw [List.getElem?_reverse hi]; exact h
theorem walkU_revL {us : List U} {vs : List V} {w : W} {H : Hp} {b : Addr} (f : w.F b) (h : Rd H b (.lst vs)) (r : RUs a.K a.cls w H us vs) : WalkU a us.reverse (Itv a.K b vs.length) w H := by
  have hl := r.length
  refine ⟨fun H' => SqL a.K H' b vs, YAt vs.reverse, ⟨fun i H1 hi g => ?_, fun H1 g => ?_, fun i H1 x H2 hi g y => ?_⟩, fun w' H' st => .inl (rd_step (st.H b f) h), fun i H1 x H2 hi hy c w1 env hp σ hK hc st R => ?_⟩
  · rw [List.length_reverse, hl] at hi
    exact ⟨hi, vs, vs[vs.length - 1 - i]'(by omega), g, List.getElem?_eq_getElem _⟩
  · show vs.length ≤ _
    rw [List.length_reverse, hl]; exact Nat.le_refl _
  · rw [List.length_reverse, hl] at hi
    exact ⟨y.1, rev_at hi (y.2 vs g)⟩
  · obtain ⟨rfl, hx⟩ := hy
    obtain ⟨u, h1, h2⟩ := r.reverse.get' hx
    exact ⟨w1, u, Stp.refl, R, h1, h2.mono st⟩
theorem walkU_revT {us : List U} {vs : List V} {w : W} {H : Hp} {b : Addr} (f : w.F b) (h : H b = some (.tup vs)) (r : RUs a.K a.cls w H us vs) : WalkU a us.reverse (RT.ItvT a.K b vs.length) w H := by
  have hl := r.length
  refine ⟨fun H' => SqT a.K H' b vs, YAt vs.reverse, ⟨fun i H1 hi g => ?_, fun H1 g => ?_, fun i H1 x H2 hi g y => ?_⟩, fun w' H' st => SqT.of ((st.H b f).trans h), fun i H1 x H2 hi hy c w1 env hp σ hK hc st R => ?_⟩
  · rw [List.length_reverse, hl] at hi
    exact ⟨hi, vs, vs[vs.length - 1 - i]'(by omega), g, List.getElem?_eq_getElem _⟩
  · show vs.length ≤ _
    rw [List.length_reverse, hl]; exact Nat.le_refl _
  · rw [List.length_reverse, hl] at hi
    exact ⟨y.1, rev_at hi (y.2 vs g)⟩
  · obtain ⟨rfl, hx⟩ := hy
    obtain ⟨u, h1, h2⟩ := r.reverse.get' hx
    exact ⟨w1, u, Stp.refl, R, h1, h2.mono st⟩
theorem si_rev (hK : X.K = a.K) {tg : Expr} (hg : Gl X "reversed") (hm : X.mg "reversed" = none) (h : SE X a Φ e m) (hs : starEach [e] X.env = (false, eval e X.env) :: starEach [] X.env) : SI X a Φ tg (.Call (.Name "reversed" p) [e] [] pos) (iRevU m) :=
  PI.imp (RT.pi_revA hg hm h hs) fun σ H R q => TR.one q fun w H s u x rx k => by
    obtain ⟨us, e, R', k2⟩ := Sat.fin k
    rw [hK]
    cases u <;> first | (cases e; done) | skip
    · cases e
      cases rx with
      | tup f h r => exact ⟨_, _, rfl, .inr ⟨SqT.of h, Out.now k2 R' (walkU_revT f h r)⟩⟩
    · cases e
      cases rx with
      | lst f h r => exact ⟨_, _, rfl, .inl ⟨SqL.of h, Out.now k2 R' (walkU_revL f (.inl h) r)⟩⟩
end
end EL
set_option Elab.async false
set_option linter.all false
set_option maxRecDepth 100000
/-! ED18: k, v in d.items(), d a value or a cell, that is then changed no more. -/
namespace EL
open PySem PySem.Spec PyProof.Rows L2
section
variable {a : Act} {w : W} {env : List SV} {hp : List EO} {σ : L2.St} {H : Hp} {s : S} {p : Addr}
/-- a dict cell is frozen -/
theorem Rel.frzC (R : Rel a w env hp σ H) {i : Nat} {t : Bool} {kvs : List (U × U)} (he : hp[i]? = some (.dic t kvs)) (hr : w.ρ[i]? = some p) : ∃ u, H p = some u ∧ isDic u = true ∧ ∀ o, Rel a (w.more p) env (hp.set i (.fdic t kvs)) σ (upd H p (.frz o u)) ∧ Stp w H (w.more p) (upd H p (.frz o u)) := by
  have il : i < hp.length := (List.getElem?_eq_some_iff.mp he).1
  have hm : p ∈ w.ρ := List.mem_of_getElem? hr
  have nF : ¬ w.F p := R.cellF i _ p he hr rfl
  have st : ∀ z, Stp w H (w.more p) (upd H p z) := fun z => ⟨fun _ h => .inl h, fun _ _ h => h, fun x hx => upd_ne fun e => nF (e ▸ hx)⟩
  obtain ⟨u, hu, hd, oc⟩ : ∃ u, H p = some u ∧ isDic u = true ∧ ∀ o, OC a.K a.cls (w.more p) (upd H p (.frz o u)) (.fdic t kvs) p := by
    have c := R.cell i _ p he hr
    cases c with
    | dicK h r => exact ⟨_, h, rfl, fun o => .fK (.inr rfl) upd_same (r.mono (st _))⟩
    | dicT h r => exact ⟨_, h, rfl, fun o => .fT (.inr rfl) upd_same (r.mono (st _))⟩
  refine ⟨u, hu, hd, fun o => ⟨⟨R.len, fun j s e => (R.slot j s e).mono (st _) fun h q hq => upd_ne fun z => ?_, fun j s q e h hq => ?_, R.apart, by rw [List.length_set]; exact R.clen, R.cnd, fun j v q hi hq => ?_, fun j v q hi hq hz => ?_, R.cell0, R.pre, fun x v hx hm' ht => ?_, fun x hx => ?_, fun x hx => ?_, fun x hx => .inl (R.Fpre x hx), fun x hx => tabG_at (upd_ne (R.cell_ntab hm hx)) (R.tab x hx), fun x hx z => z.elim (R.tabF x hx) (R.cell_ntab hm hx)⟩, st _⟩⟩
  · subst z
    exact (R.own j s q e h hq).2.1 hm
  · obtain ⟨o1, o2, o3⟩ := R.own j s q e h hq
    exact ⟨fun z => z.elim o1 fun z => o2 (z ▸ hm), o2, o3⟩
  · by_cases hj : j = i
    · subst hj
      rw [List.getElem?_set_self il] at hi; cases hi
      rw [hr] at hq; cases hq
      exact oc o
    · rw [List.getElem?_set_ne (Ne.symm hj)] at hi
      refine (R.cell j v q hi hq).mono (st _) (upd_ne fun z => ?_)
      subst z
      exact hj (nodup_at R.cnd hq hr)
  · by_cases hj : j = i
    · subst hj
      rw [List.getElem?_set_self il] at hi; cases hi
      cases hz
    · rw [List.getElem?_set_ne (Ne.symm hj)] at hi
      intro z
      rcases z with z | z
      · exact R.cellF j v q hi hq hz z
      · subst z
        exact hj (nodup_at R.cnd hq hr)
  · rw [upd_ne fun z => ?_]
    · exact R.frame x v hx hm' ht
    · subst z
      rcases R.cell0 x hm with z | z
      · exact hm' z
      · rw [hx] at z; cases z
  · rcases hx with hx | hx
    · rw [upd_ne (show x ≠ p from fun z => nF (z ▸ hx))]; exact R.frz x hx
    · rw [hx, upd_same]; exact fun z => nomatch z
  · rcases hx with hx | hx
    · exact R.F0 x hx
    · rw [hx]
      rcases R.cell0 p hm with z | z
      · exact .inr (.inr z)
      · exact .inr (.inl (.inl z))
end
def itemL (kvs : List (U × U)) : List U := kvs.map fun e => .tup [e.1, e.2]
/-- the pairs of a dict, that is frozen by it -/
def pairsS (s : S) : U → Option (List U × S)
  | .dic _ kvs => some (itemL kvs, s)
  | .ref i => match s.hp[i]? with
    | some (.dic t kvs) => some (itemL kvs, ⟨s.env, s.hp.set i (.fdic t kvs)⟩)
    | some (.fdic _ kvs) => some (itemL kvs, s)
    | _ => none
  | _ => none
def iPairsC (m : M U) : M (List U) := bnd m fun u => act fun s => pairsS s u
section
variable {X : Cx} {a : Act} {Φ : Phi} {e : Expr} {m : M U} {apos cpos tpos : Pos} {elts : List Expr} {kk : Nat}
theorem si_itemsC (h : SE X a Φ e m) (hbase : attributeBase e "items" X.env (eval e X.env) = eval e X.env) (hline : (apos.endLine == cpos.line) = true) : SI X a Φ (.Tuple elts kk tpos) (.Call (.Attribute e "items" apos) [] [] cpos) (iPairsC m) :=
  PI.imp (pi_itemsB (PE.fz h) hbase hline) fun σ H R q => TR.one q fun w H s u x rx k => by
    obtain ⟨us, s', e, R', k2⟩ := Sat.act k
    cases u <;> first | (cases e; done) | skip
    · rename_i t kvs
      cases e
      cases rx with
      | dicK f1 h1 r1 => exact .inl ⟨_, _, rfl, .inl ⟨_, h1, k2 _ _ _ Stp.refl R' (walkU_dicK f1 h1 r1)⟩⟩
      | dicT f1 h1 r1 => exact .inl ⟨_, _, rfl, .inr ⟨_, h1, k2 _ _ _ Stp.refl R' (walkU_dicT f1 h1 r1)⟩⟩
    · rename_i i
      unfold pairsS at e
      dsimp only at e
      cases rx with
      | ref hr =>
        rename_i p
        split at e
        · rename_i t kvs he
          cases e
          obtain ⟨u, hu, hd, g⟩ := R'.frzC he hr
          refine .inr ⟨p, u, rfl, hu, hd, fun o => ?_⟩
          obtain ⟨R2, st⟩ := g o
          have c := R2.cell i (.fdic t kvs) p (by rw [List.getElem?_set_self (List.getElem?_eq_some_iff.mp he).1]) hr
          cases c with
          | fK f1 h1 r1 => exact ⟨_, _, rfl, .inl ⟨_, h1, k2 _ _ _ st R2 (walkU_dicK f1 h1 r1)⟩⟩
          | fT f1 h1 r1 => exact ⟨_, _, rfl, .inr ⟨_, h1, k2 _ _ _ st R2 (walkU_dicT f1 h1 r1)⟩⟩
        · rename_i t kvs he
          cases e
          cases R'.cell i _ p he hr with
          | fK f1 h1 r1 => exact .inl ⟨_, _, rfl, .inl ⟨_, h1, k2 _ _ _ Stp.refl R' (walkU_dicK f1 h1 r1)⟩⟩
          | fT f1 h1 r1 => exact .inl ⟨_, _, rfl, .inr ⟨_, h1, k2 _ _ _ Stp.refl R' (walkU_dicT f1 h1 r1)⟩⟩
        · cases e
end
end EL
set_option Elab.async false
set_option linter.all false
set_option maxRecDepth 100000
/-! ED19: name = {k: v for ..}, the name a local of the same line. -/
namespace EL
open PySem PySem.Spec PyProof.Rows L2
section
variable {X : Cx} {kx vx tg iter : Expr} {ifs : List Expr} {scope : Scope} {own : List (Str × Nat)} {pos spos py : Pos} {wi : TI} {g : TG} {tt : TT} {tk tv : TE} {i : Nat} {y : Str}
/-- where the name takes the new dict -/
theorem dc_store {pins : List (Addr × Obj)} {σ : L2.St} {D : Ends} {L C : Addr} {s' : Shared} {m : Str → Option Value} {H' : Hp} (hN : X.N.Nodup) (hy : X.N[i]? = some y) (hyl : X.env.scope.names.lookup y = some .local) (I' : Inv X pins σ H' s') (q : gName i (.ref L) σ H' D.nx) (hn : s'.heap.Ns C m) (f : FpOk X pins H' C) :
    compPost (model X.prog X.w) X.A X.xe (some (assign (.Name y py) X.env)) (fun _ s' => L2.SP X pins D .next s') (.ref L) C (.ok .next) s' := by
  show wpAny _ _ (assign (.Name y py) X.env (.ref L)) _ _ _
  refine wpAny_assign_Name (store_ok2 (v := V.ref L) I' hN hy (.inl hyl) rfl (fun u I2 ⟨a, sb, ha⟩ => ?_) (.inr hyl))
  obtain ⟨g0, g1, g2, g3, g4, g5⟩ := f
  have ne : C ≠ a := by
    rcases ha with z | z
    · rw [z]; exact g1
    · exact fun e => g4 y a z e.symm
  exact ⟨m, hn.sameBut sb ne, fun h3 sb3 => ⟨_, H', I2.turned (t' := u.toks) (fun b o hb e => (sb3.2 b hb).trans e) g0 g1 g3 g4 g5, q⟩⟩
theorem ps_setDcT (hu : X.A.units + 1 < cLine) (hc : X.calm = true) (hN : X.N.Nodup) (hy : X.N[i]? = some y) (hyl : X.env.scope.names.lookup y = some .local)
    (hsw : swapsWith (.DictComp kx vx [⟨tg, iter, ifs, 0⟩] scope pos) (some (.Name y py)) spos.line X.env = pure true) (hi : PI X tg iter wi) (ok : BlkOk X.N X.env.scope scope own)
    (hg : ∀ (s : Shared) (H : Hp) (C : Addr) (cl : List (Str × Addr)) (fp : List Addr), PG (X.blk s H scope (compEnvC scope cl C X.env) fp) tg g) (ht : ∀ (s : Shared) (H : Hp) (C : Addr) (cl : List (Str × Addr)) (fp : List Addr), PTs (X.blk s H scope (compEnvC scope cl C X.env) fp) ifs tt)
    (hk : ∀ (s : Shared) (H : Hp) (C : Addr) (cl : List (Str × Addr)) (fp : List Addr), PE (X.blk s H scope (compEnvC scope cl C X.env) fp) kx tk)
    (he : ∀ (s : Shared) (H : Hp) (C : Addr) (cl : List (Str × Addr)) (fp : List Addr), PE (X.blk s H scope (compEnvC scope cl C X.env) fp) vx tv) (hs : ∀ x, foldedSetIterable iter X.env x = pure x) :
    PS X (.Assign [.Name y py] (.DictComp kx vx [⟨tg, iter, ifs, 0⟩] scope pos) spos) (tAsg (tDcT wi g tt tk tv (own.map (·.2))) (gName i)) := by
  refine ⟨fun pins s σ H D I h => ?_⟩
  rw [exec_Assign_Name_used _ _ _ _ hsw]
  refine wpAny_bind (wpAny_standAt (wpAny_bind ?_))
  show wpAny _ X.A (do let _ ← comprehension (.DictComp kx vx [⟨tg, iter, ifs, 0⟩] scope pos) scope X.env (firstIterPos [⟨tg, iter, ifs, 0⟩] pos) newDict false (eval iter X.env) (some (assign (.Name y py) X.env))) _ _ s
  have z : tDcT wi g tt tk tv (own.map (·.2)) σ H (fun x H1 => gName i x σ H1 D.nx) := h
  exact wpAny_bind (thn (dcT_core (Qf := fun _ s' => L2.SP X pins D .next s') hu hc hN I hi ok hg ht hk he hs z fun L C s' m H' I' q hn f => dc_store hN hy hyl I' q hn f) fun _ s' hq => wpAny_pure (wpAny_pure hq))
theorem ps_setDcK (hc : X.calm = true) (hN : X.N.Nodup) (hy : X.N[i]? = some y) (hyl : X.env.scope.names.lookup y = some .local)
    (hsw : swapsWith (.DictComp kx vx [⟨tg, iter, ifs, 0⟩] scope pos) (some (.Name y py)) spos.line X.env = pure true) (hi : PI X tg iter wi) (ok : BlkOk X.N X.env.scope scope own)
    (hg : ∀ (s : Shared) (H : Hp) (C : Addr) (cl : List (Str × Addr)) (fp : List Addr), PG (X.blk s H scope (compEnvC scope cl C X.env) fp) tg g) (ht : ∀ (s : Shared) (H : Hp) (C : Addr) (cl : List (Str × Addr)) (fp : List Addr), PTs (X.blk s H scope (compEnvC scope cl C X.env) fp) ifs tt)
    (hk : ∀ (s : Shared) (H : Hp) (C : Addr) (cl : List (Str × Addr)) (fp : List Addr), PE (X.blk s H scope (compEnvC scope cl C X.env) fp) kx tk)
    (he : ∀ (s : Shared) (H : Hp) (C : Addr) (cl : List (Str × Addr)) (fp : List Addr), PE (X.blk s H scope (compEnvC scope cl C X.env) fp) vx tv) (hs : ∀ x, foldedSetIterable iter X.env x = pure x) :
    PS X (.Assign [.Name y py] (.DictComp kx vx [⟨tg, iter, ifs, 0⟩] scope pos) spos) (tAsg (tDc wi g tt tk tv (own.map (·.2))) (gName i)) := by
  refine ⟨fun pins s σ H D I h => ?_⟩
  rw [exec_Assign_Name_used _ _ _ _ hsw]
  refine wpAny_bind (wpAny_standAt (wpAny_bind ?_))
  show wpAny _ X.A (do let _ ← comprehension (.DictComp kx vx [⟨tg, iter, ifs, 0⟩] scope pos) scope X.env (firstIterPos [⟨tg, iter, ifs, 0⟩] pos) newDict false (eval iter X.env) (some (assign (.Name y py) X.env))) _ _ s
  have z : tDc wi g tt tk tv (own.map (·.2)) σ H (fun x H1 => gName i x σ H1 D.nx) := h
  exact wpAny_bind (thn (dc_core (Qf := fun _ s' => L2.SP X pins D .next s') hc hN I hi ok hg ht hk he hs z fun L C s' m H' I' q hn f => dc_store hN hy hyl I' q hn f) fun _ s' hq => wpAny_pure (wpAny_pure hq))
theorem sw_dict {gs : List Comprehension} {l : Nat} {env : Env} (hk : env.scope.kind = .function) (hy : env.scope.names.lookup y = some .local) (hl : (py.line == pos.line) = true)
    (ha : (scope.names.any fun (n, k) => n == y && (k == .local || k == .cell)) = false) : swapsWith (.DictComp kx vx gs scope pos) (some (.Name y py)) l env = pure true := by
  have k1 : env.kindOf y = some .local := hy
  have k2 : env.blockKind = .function := by unfold Env.blockKind; rw [hk]; rfl
  unfold swapsWith
  simp only [k2, k1, ha, Expr.pos, hl]
  rfl
end
section
variable {X : Cx} {a : Act} {Φ : Phi} {kx vx tg iter : Expr} {ifs : List Expr} {scope : Scope} {own : List (Str × Nat)} {pos spos py : Pos} {i : Nat} {y : Str} {mi : M (List U)} {f : U → M Unit} {t : M Bool} {mk mv : M U} {sl : List Nat}
theorem ss_dc (tk : Bool) (hu : X.A.units + 1 < cLine) (hy : X.N[i]? = some y) (hyl : X.env.scope.names.lookup y = some .local) (hsw : swapsWith (.DictComp kx vx [⟨tg, iter, ifs, 0⟩] scope pos) (some (.Name y py)) spos.line X.env = pure true) (hc : X.calm = true) (hN : X.N.Nodup) (hi : SI X a Φ tg iter mi) (ok : BlkOk X.N X.env.scope scope own) (hsl : ∀ j, j ∈ sl → j ∈ own.map (·.2))
    (hg : ∀ (s : Shared) (H : Hp) (C : Addr) (cl : List (Str × Addr)) (fp : List Addr) (b : Act), InB a b → SG (X.blk s H scope (compEnvC scope cl C X.env) fp) b Φ sl tg f)
    (ht : ∀ (s : Shared) (H : Hp) (C : Addr) (cl : List (Str × Addr)) (fp : List Addr) (b : Act), InB a b → STs (X.blk s H scope (compEnvC scope cl C X.env) fp) b Φ ifs t)
    (hk : ∀ (s : Shared) (H : Hp) (C : Addr) (cl : List (Str × Addr)) (fp : List Addr) (b : Act), InB a b → SE (X.blk s H scope (compEnvC scope cl C X.env) fp) b Φ kx mk)
    (hv : ∀ (s : Shared) (H : Hp) (C : Addr) (cl : List (Str × Addr)) (fp : List Addr) (b : Act), InB a b → SE (X.blk s H scope (compEnvC scope cl C X.env) fp) b Φ vx mv) (hs : ∀ x, foldedSetIterable iter X.env x = pure x) :
    SS X a Φ (.Assign [.Name y py] (.DictComp kx vx [⟨tg, iter, ifs, 0⟩] scope pos) spos) (sOwn i (oDC tk mi f t mk mv (own.map (·.2)))) := by
  cases tk with
  | true => exact PS.imp (ps_setDcT hu hc hN hy hyl hsw hi ok (fun s H C cl fp => PG.ex (C := InB a) fun b hb => hg s H C cl fp b hb) (fun s H C cl fp => PTs.ex (C := InB a) fun b hb => ht s H C cl fp b hb) (fun s H C cl fp => PE.ex (C := InB a) fun b hb => hk s H C cl fp b hb) (fun s H C cl fp => PE.ex (C := InB a) fun b hb => hv s H C cl fp b hb) hs) fun D σ H q => dc_keyT hsl (TSs.own q fun w H s sv p P k => (SatS.store k).2 w H _ Stp.refl (P.store i))
  | false => exact PS.imp (ps_setDcK hc hN hy hyl hsw hi ok (fun s H C cl fp => PG.ex (C := InB a) fun b hb => hg s H C cl fp b hb) (fun s H C cl fp => PTs.ex (C := InB a) fun b hb => ht s H C cl fp b hb) (fun s H C cl fp => PE.ex (C := InB a) fun b hb => hk s H C cl fp b hb) (fun s H C cl fp => PE.ex (C := InB a) fun b hb => hv s H C cl fp b hb) hs) fun D σ H q => dc_keyK hsl (TSs.own q fun w H s sv p P k => (SatS.store k).2 w H _ Stp.refl (P.store i))
end
end EL
set_option Elab.async false
set_option linter.all false
set_option maxRecDepth 100000
/-! EC13: from the text to E, with its proof. -/
namespace EL
open PySem PySem.Spec PyProof.Rows L2

/-- what a law's text has at its top: defs (name, qualified name, parameters), whole numbers, names that are free -/
structure Glb where
  funs : List (Str × Str × Nat)
  consts : List (Str × Int)
  free : List Str
  meths : List ((Str × Str) × Str × Nat) := []
  flds : List (Str × Str) := []
  mks : List (Str × Str × Nat × Bool) := []
  win : Bool := false
/-- a def's static context -/
structure Cs where
  N : List Str
  sc : Scope
  own : List Nat
  tk : List Nat
  cell : Bool
  top : Bool
  self : Str := ""
  mo : List (Str × Str) := []
  dk : Bool := true
  dq : Bool := false
  gen : Bool := false
  cx : List (Nat × Nat) := []
  dx : List (Nat × Nat) := []

structure GOk (G : Glb) (P : Program) (w : World) (K : PySem.W.Frag) (mg : Str → Option Value) (base : Heap) (cls : Cl) (Φ : Phi) (k : Nat) : Prop where
  funs : ∀ x q np, G.funs.lookup x = some (q, np) → ∃ f fd ps, mg x = some (.ref f) ∧ PySem.W.keepIn K (.ref f) = true ∧ Binds K fd ps [] ∧ FnOk P w K mg base (L2.CX P w) (2 * k) f fd ps (spE K cls Φ q np)
  consts : ∀ x i, G.consts.lookup x = some i → ∃ u, mg x = some u ∧ RelV (.int i) u
  free : ∀ x, G.free.contains x = true → mg x = none
  meths : ∀ c m q np, G.meths.lookup (c, m) = some (q, np) → Cls K (cls c) ∧ ∃ f fd ps, Meth K (cls c) m f ∧ Binds K fd ps [] ∧ FnOk P w K mg base (L2.CX P w) (2 * k) f fd ps (spE K cls Φ q np)
  mks : ∀ c q np fr, G.mks.lookup c = some (q, np, fr) → mg c = some (.ref (cls c)) ∧ Cls K (cls c) ∧ ∃ f fd ps, Mk K (cls c) f ∧ Binds K fd ps [] ∧ FnOk P w K mg base (L2.CX P w) (2 * k) f fd ps (spE K cls Φ q np)
  flds : ∀ c f, G.flds.contains (c, f) = true → NoAttr K (cls c) f
  win : G.win = true → WinOk K mg

structure XOk (G : Glb) (cs : Cs) (X : Cx) (a : Act) (Φ : Phi) (k : Nat) : Prop where
  K : X.K = a.K
  calm : X.calm = true
  nd : X.N.Nodup
  N : X.N = cs.N
  kind : X.env.scope.kind = .function
  vis : ∀ x kd, cs.sc.names.lookup x = some kd → (kd = .local ∨ kd = .cell ∨ kd = .free) → Vis X.env.scope x
  loc : ∀ x kd, cs.sc.names.lookup x = some kd → (kd = .local ∨ kd = .cell) → Loc X.env.scope x ∧ (X.fn x = true ∨ X.env.scope.names.lookup x = some .local)
  lcl : ∀ x, cs.sc.names.lookup x = some .local → X.env.scope.names.lookup x = some .local
  gl : ∀ x, cs.sc.names.lookup x = some .globalImplicit → Gl X x
  fr : ∀ x kd, cs.sc.names.lookup x = some kd → (kd = .cell ∨ kd = .free) → X.env.scope.names.lookup x = some .cell ∨ X.env.scope.names.lookup x = some .free
  room : Room (2 * k + 1) X.A
  tk : Takes X a.E
  glb : GOk G X.prog X.w X.K X.mg X.base a.cls Φ k
  pass : cs.top = true → PassesOwn (model X.prog X.w) X.A X.env X.xe
  tabs : cs.gen = true → ∃ c P, X.env.code = .ref c ∧ GxR.TabB X.base X.mg c P ∧ P ∈ a.cls.T

/-! ### forms -/
def notStar : Expr → Bool
  | .Starred _ _ => false
  | _ => true
def isComp : Expr → Bool
  | .ListComp _ _ _ _ => true
  | .SetComp _ _ _ _ => true
  | .DictComp _ _ _ _ _ => true
  | _ => false
def plainT : Expr → Bool
  | .UnaryOp .Not _ _ => false
  | .BoolOp _ _ _ => false
  | .IfExp _ _ _ _ => false
  | .Compare _ _ _ _ => false
  | _ => true
def isSlice : Expr → Bool
  | .Slice _ _ _ _ => true
  | _ => false
def isCall0 : Expr → Bool
  | .Call (.Name _ _) [] [] _ => true
  | _ => false
def isSet : Expr → Bool
  | .Set _ _ _ => true
  | _ => false
def isTup : Expr → Bool
  | .Tuple _ _ _ => true
  | _ => false
section
variable {env : Env} {e : Expr} {es : List Expr}
theorem star_cons (h : notStar e = true) : starEach (e :: es) env = (false, eval e env) :: starEach es env := by cases e <;> first | rfl | cases h
theorem star_any : ∀ {es : List Expr} {pos : Pos}, es.all notStar = true → (backTo pos (starEach es env)).any (·.1) = false
  | [], _, _ => rfl
  | e :: es, pos, h => by
    rw [List.all_cons, Bool.and_eq_true] at h
    rw [star_cons h.1]
    show (false || (backTo pos (starEach es env)).any (·.1)) = false
    rw [Bool.false_or]
    exact star_any h.2
theorem swaps_no {t : Option Expr} {l : Nat} (h : isComp e = false) : swapsWith e t l env = pure false := by cases e <;> first | rfl | cases h
theorem swaps_sub {x y : Expr} {p : Pos} {l : Nat} : swapsWithSole [.Subscript x y p] e l env = pure false := by cases e <;> rfl
theorem swaps_tup {xs : List Expr} {k : Nat} {p : Pos} {l : Nat} : swapsWithSole [.Tuple xs k p] e l env = pure false := by cases e <;> rfl
theorem sst_sub {x y : Expr} {p : Pos} : swappedStores [.Subscript x y p] e env = pure none := by cases e <;> rfl
theorem sst_tup {xs : List Expr} {k : Nat} {p : Pos} (h : isTup e = false) : swappedStores [.Tuple xs k p] e env = pure none := by cases e <;> first | rfl | cases h
theorem isTrue_plain' (h : plainT e = true) : ∀ whole, isTrue e env whole = (do let v ← whole; standAt e.pos; holding [v] (truthy v)) := by
  intro whole
  cases e with
  | UnaryOp op x p => cases op <;> first | rfl | cases h
  | BoolOp _ _ _ => cases h
  | IfExp _ _ _ _ => cases h
  | Compare _ _ _ _ => cases h
  | _ => rfl
theorem plainIx (h : isSlice e = false) : PlainIx e := by
  intro o i
  cases e <;> first | rfl | cases h
theorem attr_base {x : Str} {w : Sem Value} (h : isCall0 e = false) : attributeBase e x env w = w := by
  cases e with
  | Call f args kw p =>
    cases f with
    | Name id q =>
      cases args with
      | nil => cases kw with
        | nil => cases h
        | cons _ _ => rfl
      | cons _ _ => rfl
    | _ => rfl
  | _ => rfl
theorem no_set (h : isSet e = false) : ∀ x, foldedSetIterable e env x = pure x := by
  intro x
  cases e <;> first | rfl | cases h
theorem asg_cons (h : notStar e = true) : (assignEach (e :: es) env).map (·.2) = assign e env :: (assignEach es env).map (·.2) := by cases e <;> first | rfl | cases h
theorem asg_len : ∀ {es : List Expr}, (assignEach es env).length = es.length
  | [] => rfl
  | e :: es => by cases e <;> (show (assignEach es env).length + 1 = es.length + 1; rw [asg_len])
theorem asg_find : ∀ {es : List Expr}, es.all notStar = true → (assignEach es env).findIdx? (·.1) = none
  | [], _ => rfl
  | e :: es, h => by
    rw [List.all_cons, Bool.and_eq_true] at h
    have ih := asg_find h.2
    have : assignEach (e :: es) env = (false, assign e env) :: assignEach es env := by
      cases e <;> first | rfl | (exact (Bool.noConfusion (show false = true from h.1)))
    rw [this, List.findIdx?_cons]
    simp [ih]
end

/-- receivers whose calls have the plain form -/
def okRecv : Expr → Bool
  | .Name _ _ => true
  | .Attribute _ _ _ => true
  | .Subscript _ _ _ => true
  | _ => false
theorem recv_form {env : Env} {o : Expr} {m : Str} {apos pos : Pos} {es : List Expr} (hb : isCall0 o = false) (hs : es.all notStar = true) (hn : es.length < 20) (hl : (apos.endLine == pos.line) = true) : ∃ pl : Sem Bool, eval (.Call (.Attribute o m apos) es [] pos) env = (do
      let ov ← eval o env
      standAt apos.atName
      let (f, first) ← holding [ov] (getMethod ov m pl)
      callWith pos f first (backTo pos (starEach es env)) (backToKw pos (keywordEach [] env))) := by
  have few : methodCallForm (es.length + ([] : List Keyword).length) (backTo pos (starEach es env)) (backToKw pos (keywordEach [] env)) = true := by
    have h1 : (backTo pos (starEach es env)).all (fun x => !x.1) = true := by
      have h2 := star_any (env := env) (pos := pos) hs
      rw [List.any_eq_false] at h2
      rw [List.all_eq_true]
      intro x hx
      have := h2 x hx
      simpa using this
    unfold methodCallForm
    rw [h1]
    simp only [Bool.true_and, Bool.and_eq_true, decide_eq_true_eq]
    refine ⟨rfl, ?_⟩
    show es.length + 0 + 0 < 30
    omega
  refine ⟨(do return (← importBound o env).getD true), ?_⟩
  rw [arm_eval_Call, attr_base hb]
  unfold methodCall
  rw [few]
  simp only [calleeOf, methodCallPos, hl, Bool.not_true, Bool.false_or, if_true, pure_bind]
theorem swaps_attr {env : Env} {e o : Expr} {f : Str} {p : Pos} {l : Nat} : swapsWith e (some (.Attribute o f p)) l env = pure false := by cases e <;> rfl
/-- names of built-in types -/
def tyOf (x : Str) : Option String := if x = ("int" : Str) then some "int" else if x = ("bool" : Str) then some "bool" else if x = ("tuple" : Str) then some "tuple" else if x = ("str" : Str) then some "str" else if x = ("list" : Str) then some "list" else none
theorem tyOf_some {x : Str} {k : String} (h : tyOf x = some k) : bootBuiltins x = some (.type k) ∧ x ≠ ("__name__" : Str) ∧ (x == ("__debug__" : Str)) = false := by
  unfold tyOf at h
  split at h
  · rename_i e; cases h; subst e; exact ⟨by kernel_rfl, by decide, by decide⟩
  · split at h
    · rename_i e; cases h; subst e; exact ⟨by kernel_rfl, by decide, by decide⟩
    · split at h
      · rename_i e; cases h; subst e; exact ⟨by kernel_rfl, by decide, by decide⟩
      · split at h
        · rename_i e; cases h; subst e; exact ⟨by kernel_rfl, by decide, by decide⟩
        · split at h
          · rename_i e; cases h; subst e; exact ⟨by kernel_rfl, by decide, by decide⟩
          · cases h
/-- the class whose method x is meant -/
def clsOf (G : Glb) (cs : Cs) (x : Str) : Option Str := match cs.mo.lookup x with
  | some c => some c
  | none => (G.meths.find? fun z => decide (z.1.2 = x)).map (·.1.1)
theorem m2_ok {X : Cx} {o e f : Expr} {apos pos : Pos} (hb : isCall0 o = false) (hl : (apos.endLine == pos.line) = true) (h1 : notStar e = true) (h2 : notStar f = true) : M2 X o "get" apos e f pos := by
  have es : starEach [e, f] X.env = [(false, eval e X.env), (false, eval f X.env)] := by rw [star_cons h1, star_cons h2]; rfl
  exact ⟨attr_base hb, by rw [es]; rfl, hl, by rw [es]; rfl⟩
section
variable {X : Cx} {a : Act} {Φ : Phi} {e : Expr} {st : Stmt}
theorem ss_fail : SS X a Φ st fail := ⟨fun pins s σ H D I ⟨w, s', R, h⟩ => h.elim⟩
end

/-! ### the compiler -/
def opB : Operator → Option BOp
  | .Add => some .add | .Sub => some .sub | .Mult => some .mul | .FloorDiv => some .fdiv | .Mod => some .mod | .LShift => some .shl | .BitAnd => some .band | .BitOr => some .bor
  | _ => none
theorem opB_some {o : Operator} {b : BOp} (h : opB o = some b) : o = opOf b := by cases o <;> first | (cases h; rfl) | cases h
def opC : CmpOp → Option COp
  | .Eq => some .eq | .NotEq => some .ne | .Lt => some .lt | .LtE => some .le | .Gt => some .gt | .GtE => some .ge | .Is => some .isN | .IsNot => some .notN
  | _ => none
theorem opC_some {o : CmpOp} {b : COp} (h : opC o = some b) : o = copOf b := by cases o <;> first | (cases h; rfl) | cases h
def opI : CmpOp → Option Bool
  | .In => some false | .NotIn => some true
  | _ => none
theorem opI_some {o : CmpOp} {b : Bool} (h : opI o = some b) : o = inOp b := by cases o <;> first | (cases h; rfl) | cases h

/-- is a display at p a cell; has it tuple keys -/
def Cs.cellAt (cs : Cs) (p : Pos) : Bool := cs.cell != cs.cx.contains (p.line, p.col)
def Cs.dkAt (cs : Cs) (p : Pos) : Bool := cs.dk != cs.dx.contains (p.line, p.col)
def isLstE : Expr → Bool
  | .List _ _ => true
  | _ => false
theorem fold_no {iter : Expr} {env : Env} (h1 : isLstE iter = false) (h2 : isSet iter = false) : ∀ v, genFold iter env v = pure v := fun v => by
  cases iter <;> first | (cases h1; done) | (exact no_set (env := env) h2 v)
/-- what is made of an expression, and why -/
abbrev CE (G : Glb) (cs : Cs) (e : Expr) := { m : M U // ∀ X a Φ k, XOk G cs X a Φ k → SE X a Φ e m }
abbrev CH (G : Glb) (cs : Cs) (e : Expr) := { m : M Hd // ∀ X a Φ k, XOk G cs X a Φ k → SH X a Φ e m }
abbrev CT (G : Glb) (cs : Cs) (e : Expr) := { m : M Bool // ∀ X a Φ k, XOk G cs X a Φ k → STt X a Φ e m }
abbrev CW (G : Glb) (cs : Cs) (e : Expr) := { m : M Bool // ∀ X a Φ k, XOk G cs X a Φ k → SW X a Φ e m }
abbrev CA (G : Glb) (cs : Cs) (es : List Expr) := { m : M (List U) // ∀ X a Φ k, XOk G cs X a Φ k → SA X a Φ es m }
abbrev CI (G : Glb) (cs : Cs) (tg e : Expr) := { m : M (List U) // ∀ X a Φ k, XOk G cs X a Φ k → SI X a Φ tg e m }
abbrev CG (G : Glb) (cs : Cs) (tg : Expr) := { f : (List Nat) × (U → M Unit) // (∀ X a Φ k, XOk G cs X a Φ k → SG X a Φ f.1 tg f.2) ∧ NoEx f.2 }
abbrev CGs (G : Glb) (cs : Cs) (tg : List Expr) := { f : (List Nat) × (List U → M Unit) // (∀ X a Φ k, XOk G cs X a Φ k → SGs X a Φ f.1 tg f.2) ∧ ∀ u Φ s c g v s', f.2 u Φ s ≠ some (.ex c g v s') }
abbrev CO (G : Glb) (cs : Cs) (e : Expr) := { m : M SV // ∀ X a Φ k, XOk G cs X a Φ k → SO X a Φ e m }

/-- the place of a local name -/
def slot (cs : Cs) (x : Str) : Option { i : Nat // cs.N[i]? = some x } := match h : cs.N.findIdx? (fun y => decide (y = x)) with
  | some i => if q : cs.N[i]? = some x then some ⟨i, q⟩ else none
  | none => none
def okName (x : Str) : Bool := !(x == ("__debug__" : Str)) && !(x == ("__classdict__" : Str))
theorem okName1 {x : Str} (h : okName x = true) : (x == ("__debug__" : Str)) = false ∧ (x == ("__classdict__" : Str)) = false := by
  unfold okName at h
  rw [Bool.and_eq_true] at h
  exact ⟨by simpa using h.1, by simpa using h.2⟩
def isVis : Option NameKind → Bool
  | some .local => true
  | some .cell => true
  | some .free => true
  | _ => false
def isLoc : Option NameKind → Bool
  | some .local => true
  | some .cell => true
  | _ => false
def isGlb : Option NameKind → Bool
  | some .globalImplicit => true
  | _ => false
theorem isVis_some {k : Option NameKind} (h : isVis k = true) : ∃ kd, k = some kd ∧ (kd = .local ∨ kd = .cell ∨ kd = .free) := by
  cases k with
  | none => cases h
  | some k => cases k <;> first | (exact (Bool.noConfusion (show false = true from h))) | exact ⟨_, rfl, by simp⟩
theorem isLoc_some {k : Option NameKind} (h : isLoc k = true) : ∃ kd, k = some kd ∧ (kd = .local ∨ kd = .cell) := by
  cases k with
  | none => cases h
  | some k => cases k <;> first | (exact (Bool.noConfusion (show false = true from h))) | exact ⟨_, rfl, by simp⟩
theorem isGlb_some {k : Option NameKind} (h : isGlb k = true) : k = some .globalImplicit := by
  cases k with
  | none => cases h
  | some k => cases k <;> first | (exact (Bool.noConfusion (show false = true from h))) | rfl
section
variable {G : Glb} {cs : Cs} {X : Cx} {a : Act} {Φ : Phi} {k : Nat}
theorem XOk.hu (h : XOk G cs X a Φ k) : X.A.units + 70 < cLine := by have := h.room.un; omega
theorem XOk.vis' (h : XOk G cs X a Φ k) {x : Str} (v : isVis (cs.sc.names.lookup x) = true) : Vis X.env.scope x := by
  obtain ⟨kd, h1, h2⟩ := isVis_some v
  exact h.vis x kd h1 h2
theorem XOk.loc' (h : XOk G cs X a Φ k) {x : Str} (v : isLoc (cs.sc.names.lookup x) = true) : Loc X.env.scope x ∧ (X.fn x = true ∨ X.env.scope.names.lookup x = some .local) := by
  obtain ⟨kd, h1, h2⟩ := isLoc_some v
  exact h.loc x kd h1 h2
theorem XOk.gl' (h : XOk G cs X a Φ k) {x : Str} (v : isGlb (cs.sc.names.lookup x) = true) : Gl X x := h.gl x (isGlb_some v)
/-- a block's context -/
def Cs.blk (cs : Cs) (scope : Scope) : Cs := { cs with sc := scope, top := false, gen := false }
theorem blk_of {N : List Str} {sc sc' scope : Scope} {own : List (Str × Nat)} (h : BlkOk N sc scope own) (f : ∀ x kd, sc.names.lookup x = some kd → (kd = .cell ∨ kd = .free) → sc'.names.lookup x = some .cell ∨ sc'.names.lookup x = some .free) : BlkOk N sc' scope own :=
  ⟨h.kind, h.uniq, h.ix, fun y hy e => by
    rcases h.free y hy e with q | q
    · exact f _ _ q (.inl rfl)
    · exact f _ _ q (.inr rfl), h.own⟩
theorem XOk.blkOk (h : XOk G cs X a Φ k) {scope : Scope} {own : List (Str × Nat)} (b : blkC cs.N cs.sc scope own = true) : BlkOk X.N X.env.scope scope own := by
  rw [h.N]
  exact blk_of (blkOk_by b) h.fr
theorem lookup_mem' {α : Type} : ∀ {l : List (Str × α)} {x : Str} {v : α}, l.lookup x = some v → (x, v) ∈ l := fun h => PySem.mem_of_lookup h
theorem lookup_free {env : Env} {x : Str} : ∀ {names : List (Str × NameKind)}, names.lookup x = some .free →
    (names.map fun (n, k) => if (k == NameKind.free && env.scope.kind == .function && env.kindOf n == some .cell) then (n, NameKind.cell) else (n, k)).lookup x = some .cell ∨
    (names.map fun (n, k) => if (k == NameKind.free && env.scope.kind == .function && env.kindOf n == some .cell) then (n, NameKind.cell) else (n, k)).lookup x = some .free
  | [], h => by simp at h
  | (n, k₀) :: r, h => by
    have ih := @lookup_free env x r
    show List.lookup x ((if (k₀ == NameKind.free && env.scope.kind == .function && env.kindOf n == some .cell) = true then (n, NameKind.cell) else (n, k₀)) :: (r.map _)) = _ ∨ List.lookup x ((if (k₀ == NameKind.free && env.scope.kind == .function && env.kindOf n == some .cell) = true then (n, NameKind.cell) else (n, k₀)) :: (r.map _)) = _
    by_cases hc : (k₀ == NameKind.free && env.scope.kind == .function && env.kindOf n == some .cell) = true
    · rw [if_pos hc]
      cases hx : x == n with
      | true => simp [List.lookup_cons, hx]
      | false =>
        simp only [List.lookup_cons, hx] at h ⊢
        exact ih h
    · rw [if_neg hc]
      cases hx : x == n with
      | true =>
        simp only [List.lookup_cons, hx] at h ⊢
        exact .inr h
      | false =>
        simp only [List.lookup_cons, hx] at h ⊢
        exact ih h
theorem XOk.blk (h : XOk G cs X a Φ k) {scope : Scope} {own : List (Str × Nat)} (bo : blkC cs.N cs.sc scope own = true) (s : Shared) (H : Hp) (C : Addr) (cl : List (Str × Addr)) (fp : List Addr) (b : Act) (ib : InB a b) :
    XOk G (cs.blk scope) (X.blk s H scope (compEnvC scope cl C X.env) fp) b Φ k := by
  have ok := blkOk_by bo
  have keep : ∀ {x : Str} {kd : NameKind}, kd ≠ .free → scope.names.lookup x = some kd → (relabel scope X.env).names.lookup x = some kd := fun {x kd} hk hl => lookup_relS_keep (sc := X.env.scope) hk hl
  have free : ∀ {x : Str}, scope.names.lookup x = some .free → (relabel scope X.env).names.lookup x = some .cell ∨ (relabel scope X.env).names.lookup x = some .free := fun {x} hl => lookup_free hl
  refine ⟨h.K.trans ib.K.symm, h.calm, h.nd, h.N, ok.kind, fun x kd hl hk => ?_, fun x kd hl hk => ?_, fun x hl => keep (by decide) hl, fun x hl => ?_, fun x kd hl hk => ?_, h.room, ?_, ?_, fun z => Bool.noConfusion z, fun z => Bool.noConfusion z⟩
  · rcases hk with rfl | rfl | rfl
    · exact .inl (keep (by decide) hl)
    · exact .inr (.inl (keep (by decide) hl))
    · exact .inr (free hl)
  · rcases hk with rfl | rfl
    · exact ⟨.inl (keep (by decide) hl), .inr (keep (by decide) hl)⟩
    · refine ⟨.inr (keep (by decide) hl), .inl ?_⟩
      show (scope.names.lookup x == some .cell) = true
      rw [show scope.names.lookup x = some .cell from hl]; rfl
  · exact keep (by decide) hl
  · rcases hk with rfl | rfl
    · exact .inl (keep (by decide) hl)
    · exact free hl
  · rw [ib.E]; exact takes0
  · rw [ib.cls]; exact h.glb
end
end EL
set_option Elab.async false
set_option linter.all false
set_option maxRecDepth 100000
/-! EC14: the compiler of expressions and statements. -/
namespace EL
open PySem PySem.Spec PyProof.Rows L2

def isNe : COp → Bool
  | .ne => true
  | _ => false
def isEqc : COp → Bool
  | .eq => true
  | .ne => true
  | _ => false
theorem isNe_ok {b : COp} (h : isEqc b = true) : copOf b = copOf (if isNe b = true then .ne else .eq) := by
  cases b <;> first | rfl | cases h
/-! ### small words -/
def eNeg (m : M U) : M U := bnd m fun u => match u with
  | .int i => ret (.int (-i))
  | _ => fail
/-- target = e, the target a row of names -/
def sAsgT (m : M U) (f : U → M Unit) : M Fl := bnd m fun u => bnd (f u) fun _ => ret .nx
section
variable {a : Act} {X : Cx} {Φ : Phi} {e tg : Expr} {m : M U} {pos : Pos} {f : U → M Unit} {sl : List Nat}
theorem se_neg (h : SE X a Φ e m) : SE X a Φ (.UnaryOp .USub e pos) (eNeg m) :=
  PE.imp (pe_un un_neg h) fun σ H Q q => TR.one q fun w H s u x rx k => by
    cases u <;> first | exact k.2.elim | skip
    cases rx
    exact ⟨_, rfl, Out.now (Sat.ret k) k.1 (.int _)⟩
theorem ss_asgT (h : SE X a Φ e m) (hg : SG X a Φ sl tg f) (hf : NoEx f) (ht : notStar tg = true) (hs : swapsWithSole [tg] e pos.line X.env = pure false) (hw : swappedStores [tg] e X.env = pure none) : SS X a Φ (.Assign [tg] e pos) (sAsgT m f) :=
  PS.imp (ps_asg h hg hs hw (h1 := by rw [asg_cons ht]; rfl)) fun D σ H q => TSs.one (r1 := relU a) q fun w H s u v ru k => by
    obtain ⟨R, k⟩ := k
    refine ⟨w, s, u, ru, R, ?_⟩
    unfold bnd at k
    cases e : f u Φ s with
    | none => rw [e] at k; exact k
    | some z =>
      rw [e] at k
      cases z with
      | ex c g v s' => exact hf u Φ s c g v s' e
      | ok _ s' => exact fun w' H' σ' st R' _ => k w' H' σ' st R'
end
theorem noEx_name {i : Nat} : NoEx (tgName i) := by
  intro u Φ s c g v s' h
  unfold tgName at h
  split at h <;> cases h
theorem noEx_tup {n : Nat} {g : List U → M Unit} (hg : ∀ u Φ s c q v s', g u Φ s ≠ some (.ex c q v s')) : NoEx (tgTup n g) := by
  intro u Φ s c q v s' h
  unfold tgTup at h
  split at h
  · split at h
    · exact hg _ _ _ _ _ _ _ h
    · cases h
  · cases h
theorem noEx_nil : ∀ u Φ s c q v s', tgsNil u Φ s ≠ some (.ex c q v s') := by
  intro u Φ s c q v s' h
  unfold tgsNil at h
  split at h <;> cases h
theorem noEx_cons {f : U → M Unit} {g : List U → M Unit} (hf : NoEx f) (hg : ∀ u Φ s c q v s', g u Φ s ≠ some (.ex c q v s')) : ∀ u Φ s c q v s', tgsCons f g u Φ s ≠ some (.ex c q v s') := by
  intro u Φ s c q v s' h
  unfold tgsCons at h
  split at h
  · unfold bnd at h
    split at h
    · cases h
    · exact hg _ _ _ _ _ _ _ h
    · rename_i e
      exact hf _ _ _ _ _ _ _ e
  · cases h

/-! ### targets -/
mutual
def cG (G : Glb) : Nat → (cs : Cs) → (tg : Expr) → Option (CG G cs tg)
  | 0, _, _ => none
  | n + 1, cs, .Name x p => match slot cs x with
    | some ⟨i, hi⟩ => if hl : isLoc (cs.sc.names.lookup x) = true then some ⟨([i], tgName i), fun X a Φ k h => sg_name h.nd (by rw [h.N]; exact hi) (h.loc' hl).1 (h.loc' hl).2, noEx_name⟩ else none
    | none => none
  | n + 1, cs, .Tuple es kk p => match cGs G n cs es with
    | some f => if hs : es.all notStar = true then some ⟨(f.1.1, tgTup es.length f.1.2), fun X a Φ k h => sg_tup h.K h.calm (f.2.1 X a Φ k h) asg_len (asg_find hs), noEx_tup f.2.2⟩ else none
    | none => none
  | _ + 1, _, _ => none
def cGs (G : Glb) : Nat → (cs : Cs) → (es : List Expr) → Option (CGs G cs es)
  | 0, _, _ => none
  | n + 1, cs, [] => some ⟨([], tgsNil), fun X a Φ k h => sgs_nil, noEx_nil⟩
  | n + 1, cs, e :: es => match cG G n cs e, cGs G n cs es with
    | some f, some g => if hs : notStar e = true then some ⟨(f.1.1 ++ g.1.1, tgsCons f.1.2 g.1.2), fun X a Φ k h => sgs_cons (f.2.1 X a Φ k h) (g.2.1 X a Φ k h) (asg_cons hs), noEx_cons f.2.2 g.2.2⟩ else none
    | _, _ => none
end

abbrev CWo (G : Glb) (cs : Cs) (op : BoolOp) (es : List Expr) (p : Pos) := { m : M Bool // ∀ X a Φ k, XOk G cs X a Φ k → SW X a Φ (.BoolOp op es p) m }
abbrev CBo (G : Glb) (cs : Cs) (op : BoolOp) (es : List Expr) (p : Pos) := { m : M U // ∀ X a Φ k, XOk G cs X a Φ k → SE X a Φ (.BoolOp op es p) m }
abbrev CP (G : Glb) (cs : Cs) (e : Option Expr) := { m : M (Option Int) // ∀ X a Φ k, XOk G cs X a Φ k → SP X a Φ e m }
abbrev CTs (G : Glb) (cs : Cs) (es : List Expr) := { m : M Bool // ∀ X a Φ k, XOk G cs X a Φ k → STs X a Φ es m }
/-- the names of a block with their slots -/
def ownOf (cs : Cs) (scope : Scope) : List (Str × Nat) := scope.names.filterMap fun y => match y.2 with
  | .local => (slot cs y.1).map fun i => (y.1, i.1)
  | .cell => (slot cs y.1).map fun i => (y.1, i.1)
  | _ => none
def subL (sl vs : List Nat) : Bool := sl.all fun j => vs.contains j
theorem subL_ok {sl vs : List Nat} (h : subL sl vs = true) : ∀ j, j ∈ sl → j ∈ vs := fun j hj => by
  unfold subL at h
  rw [List.all_eq_true] at h
  simpa using h j hj
/-- a name that is free -/
def freeB (G : Glb) (cs : Cs) (x y : Str) : Bool := decide (x = y) && isGlb (cs.sc.names.lookup y) && G.free.contains y
theorem freeB_ok {G : Glb} {cs : Cs} {x y : Str} {X : Cx} {a : Act} {Φ : Phi} {k : Nat} (b : freeB G cs x y = true) (h : XOk G cs X a Φ k) : x = y ∧ Gl X y ∧ X.mg y = none := by
  unfold freeB at b
  simp only [Bool.and_eq_true, decide_eq_true_eq] at b
  exact ⟨b.1.1, h.gl' b.1.2, h.glb.free y b.2⟩

abbrev CD (G : Glb) (cs : Cs) (p : Pos) (ks : List (Option Expr)) (vs : List Expr) := { m : M (List (U × U)) // ∀ X a Φ k, XOk G cs X a Φ k → SPr X a Φ p ks vs m }
def isFun : ScopeKind → Bool
  | .function => true
  | _ => false
def isFree : Option NameKind → Bool
  | some .free => true
  | _ => false
def isLc : Option NameKind → Bool
  | some .local => true
  | _ => false
def isCF : Option NameKind → Bool
  | some .cell => true
  | some .free => true
  | _ => false
def winSB (sc scope : Scope) (x y : Str) : Bool := isFun scope.kind && !scope.isCoroutine && (scope.names.all fun z => match z.2 with
    | .cell => false
    | .free => isCF (sc.names.lookup z.1)
    | _ => true) && isLc (scope.names.lookup (".0" : Str)) && isLc (scope.names.lookup x) && isFree (scope.names.lookup y) && isGlb (scope.names.lookup ("within" : Str)) && !(x == ("__debug__" : Str)) && !(y == ("__debug__" : Str)) && !(y == ("__classdict__" : Str))
theorem isLc_some {k : Option NameKind} (h : isLc k = true) : k = some .local := by
  cases k with
  | none => cases h
  | some k => cases k <;> first | rfl | (exact (Bool.noConfusion (show false = true from h)))
theorem isFree_some {k : Option NameKind} (h : isFree k = true) : k = some .free := by
  cases k with
  | none => cases h
  | some k => cases k <;> first | rfl | (exact (Bool.noConfusion (show false = true from h)))
theorem isCF_some {k : Option NameKind} (h : isCF k = true) : ∃ kd, k = some kd ∧ (kd = .cell ∨ kd = .free) := by
  cases k with
  | none => cases h
  | some k => cases k <;> first | (exact (Bool.noConfusion (show false = true from h))) | exact ⟨_, rfl, by simp⟩
theorem winSB_ok {G : Glb} {cs : Cs} {X : Cx} {a : Act} {Φ : Phi} {k : Nat} {scope : Scope} {x y : Str} (h : XOk G cs X a Φ k) (b : winSB cs.sc scope x y = true) : WinS X.env.scope scope x y := by
  unfold winSB at b
  simp only [Bool.and_eq_true, List.all_eq_true, Bool.not_eq_true'] at b
  obtain ⟨⟨⟨⟨⟨⟨⟨⟨⟨b1, b2⟩, b3⟩, b4⟩, b5⟩, b6⟩, b7⟩, b8⟩, b9⟩, b10⟩ := b
  refine ⟨?_, b2, fun z hz e => ?_, isLc_some b4, isLc_some b5, isFree_some b6, isGlb_some b7, fun z hz e => ?_, b8, b9, b10⟩
  · cases q : scope.kind <;> first | rfl | (rw [q] at b1; cases b1)
  · have q := b3 z hz
    rw [e] at q; cases q
  · have q := b3 z hz
    rw [e] at q
    obtain ⟨kd, q1, q2⟩ := isCF_some q
    exact h.fr z.1 kd q1 q2
mutual
/-- an expression -/
def cE (G : Glb) : Nat → (cs : Cs) → (e : Expr) → Option (CE G cs e)
  | 0, _, _ => none
  | n + 1, cs, .Constant (.int i) j p => some ⟨eC (.int i), fun X a Φ k h => se_int⟩
  | n + 1, cs, .Constant (.bool b) j p => some ⟨eC (.bl b), fun X a Φ k h => se_bl⟩
  | n + 1, cs, .Constant .none j p => some ⟨eC .non, fun X a Φ k h => se_non⟩
  | n + 1, cs, .Constant (.str x) j p => some ⟨eC (.str x), fun X a Φ k h => se_str⟩
  | n + 1, cs, .Name x p =>
    if hn : okName x = true then
      if hv : isVis (cs.sc.names.lookup x) = true then match slot cs x with
        | some ⟨i, hi⟩ => some ⟨eVar i, fun X a Φ k h => se_var (by rw [h.N]; exact hi) (h.vis' hv) (okName1 hn).1 (okName1 hn).2⟩
        | none => none
      else if hg : isGlb (cs.sc.names.lookup x) = true then match q : G.consts.lookup x with
        | some i => some ⟨eC (.int i), fun X a Φ k h => by
            obtain ⟨u, h1, h2⟩ := h.glb.consts x i q
            exact se_glob (h.gl' hg) h1 h2 (okName1 hn).1⟩
        | none => none
      else none
    else none
  | n + 1, cs, .BinOp e1 o e2 p => match q : opB o, cE G n cs e1, cE G n cs e2 with
    | some b, some m1, some m2 => some ⟨eBop b m1.1 m2.1, fun X a Φ k h => by rw [opB_some q]; exact se_bop h.K b (m1.2 X a Φ k h) (m2.2 X a Φ k h)⟩
    | _, _, _ => none
  | n + 1, cs, .UnaryOp .Not e p => (cE G n cs e).map fun m => ⟨eNot m.1, fun X a Φ k h => se_not (m.2 X a Φ k h)⟩
  | n + 1, cs, .UnaryOp .USub e p => (cE G n cs e).map fun m => ⟨eNeg m.1, fun X a Φ k h => se_neg (m.2 X a Φ k h)⟩
  | n + 1, cs, .BoolOp op es p => cBo G n cs op es p
  | n + 1, cs, .Compare e1 [o] [e2] p => match q : opC o with
    | some b => if hd : cs.dq = true ∧ isEqc b = true then (match cH G n cs e1, cH G n cs e2 with
      | some m1, some m2 => some ⟨eEqH (isNe b) m1.1 m2.1, fun X a Φ k h => by rw [opC_some q, isNe_ok hd.2]; exact se_eqH h.K (by have := h.hu; omega) (isNe b) (m1.2 X a Φ k h) (m2.2 X a Φ k h)⟩
      | _, _ => none)
      else (match cE G n cs e1, cE G n cs e2 with
      | some m1, some m2 => some ⟨eCop b m1.1 m2.1, fun X a Φ k h => by rw [opC_some q]; exact se_cop h.K (by have := h.hu; omega) b (m1.2 X a Φ k h) (m2.2 X a Φ k h)⟩
      | _, _ => none)
    | none => (match q : opI o, cE G n cs e1, cH G n cs e2 with
      | some b, some m1, some m2 => if hb : behindInMarks (inOp b) e2 = false then some ⟨eMem b m1.1 m2.1, fun X a Φ k h => by rw [opI_some q]; exact se_mem h.K (by have := h.hu; omega) b (m1.2 X a Φ k h) (m2.2 X a Φ k h) hb⟩ else none
      | _, _, _ => none)
  | n + 1, cs, .Compare e1 [o, o'] [e2, e3] p => match q : opC o, q' : opC o' with
    | some b, some b' => (match cE G n cs e1, cE G n cs e2, cE G n cs e3 with
      | some m1, some m2, some m3 => if hm : lastMarks [copOf b, copOf b'] [e2, e3] = false then some ⟨eChain b b' m1.1 m2.1 m3.1, fun X a Φ k h => by rw [opC_some q, opC_some q']; exact se_chain h.K (by have := h.hu; omega) b b' (m1.2 X a Φ k h) (m2.2 X a Φ k h) (m3.2 X a Φ k h) hm⟩ else none
      | _, _, _ => none)
    | _, _ => none
  | n + 1, cs, .IfExp t e1 e2 p => match cT G n cs t, cE G n cs e1, cE G n cs e2 with
    | some t, some m1, some m2 => some ⟨eIf t.1 m1.1 m2.1, fun X a Φ k h => se_if (t.2 X a Φ k h) (m1.2 X a Φ k h) (m2.2 X a Φ k h)⟩
    | _, _, _ => none
  | n + 1, cs, .Tuple es kk p => (cA G n cs es).map fun ms => ⟨eTup ms.1, fun X a Φ k h => se_tup (ms.2 X a Φ k h)⟩
  | n + 1, cs, .List es p => (cO G n cs (.List es p)).map fun m => if cs.cellAt p = true then ⟨eCell m.1, fun X a Φ k h => se_cell (m.2 X a Φ k h)⟩ else ⟨eFz m.1, fun X a Φ k h => se_fz (m.2 X a Φ k h)⟩
  | n + 1, cs, .Dict ks vs p => (cO G n cs (.Dict ks vs p)).map fun m => if cs.cellAt p = true then ⟨eCell m.1, fun X a Φ k h => se_cell (m.2 X a Φ k h)⟩ else ⟨eFz m.1, fun X a Φ k h => se_fz (m.2 X a Φ k h)⟩
  | n + 1, cs, .ListComp e gs sc p => (cO G n cs (.ListComp e gs sc p)).map fun m => if cs.cellAt p = true then ⟨eCell m.1, fun X a Φ k h => se_cell (m.2 X a Φ k h)⟩ else ⟨eFz m.1, fun X a Φ k h => se_fz (m.2 X a Φ k h)⟩
  | n + 1, cs, .Attribute e f p => if hb : isCall0 e = false then (cE G n cs e).map fun m => ⟨eFld f m.1, fun X a Φ k h => se_fld h.K (m.2 X a Φ k h) (attr_base hb)⟩ else none
  | n + 1, cs, .Subscript e1 (.Slice lo hi none p2) p => match cH G n cs e1, cP G n cs lo, cP G n cs hi with
    | some mh, some ml, some mu => some ⟨eSl mh.1 ml.1 mu.1, fun X a Φ k h => se_sl h.K (mh.2 X a Φ k h) (ml.2 X a Φ k h) (mu.2 X a Φ k h)⟩
    | _, _, _ => none
  | n + 1, cs, .DictComp e1 e2 gs sc p => (cO G n cs (.DictComp e1 e2 gs sc p)).map fun m => if cs.cellAt p = true then ⟨eCell m.1, fun X a Φ k h => se_cell (m.2 X a Φ k h)⟩ else ⟨eFz m.1, fun X a Φ k h => se_fz (m.2 X a Φ k h)⟩
  | n + 1, cs, .Subscript e1 e2 p => if hs : isSlice e2 = false then (match cH G n cs e1, cE G n cs e2 with
      | some m1, some m2 => some ⟨eGet m1.1 m2.1, fun X a Φ k h => se_get h.K (by have := h.hu; omega) (m1.2 X a Φ k h) (m2.2 X a Φ k h) (plainIx hs)⟩
      | _, _ => none) else none
  | n + 1, cs, .Call (.Name x p0) [e] [] p => match cY G n cs x p0 e p with
    | some m => some m
    | none =>
    if hs : notStar e = true then
      if b : freeB G cs x "len" = true then (cH G n cs e).map fun m => ⟨eLen m.1, fun X a Φ k h => by obtain ⟨h1, h2, h3⟩ := freeB_ok b h; rw [h1]; exact se_len h2 h3 (m.2 X a Φ k h) h.K (star_cons hs)⟩
      else if b : freeB G cs x "tuple" = true then (cH G n cs e).map fun m => ⟨eTupleOf m.1, fun X a Φ k h => by obtain ⟨h1, h2, h3⟩ := freeB_ok b h; rw [h1]; exact se_tupleOf h2 h3 (m.2 X a Φ k h) h.K (star_cons hs)⟩
      else if b : freeB G cs x "list" = true then (cH G n cs e).map fun m => ⟨eListOf m.1, fun X a Φ k h => by obtain ⟨h1, h2, h3⟩ := freeB_ok b h; rw [h1]; exact se_listOf h2 h3 (m.2 X a Φ k h) h.K (star_cons hs)⟩
      else if b : freeB G cs x "sorted" = true then (cH G n cs e).map fun m => ⟨eSorted m.1, fun X a Φ k h => by obtain ⟨h1, h2, h3⟩ := freeB_ok b h; rw [h1]; exact se_sorted h.hu h2 h3 (m.2 X a Φ k h) h.K (star_cons hs)⟩
      else if b : freeB G cs x "int" = true then (cE G n cs e).map fun m => ⟨eInt1 m.1, fun X a Φ k h => by obtain ⟨h1, h2, h3⟩ := freeB_ok b h; rw [h1]; exact se_int1 h2 h3 (m.2 X a Φ k h) (star_cons hs)⟩
      else cF G n cs x p0 e [] p
    else none
  | n + 1, cs, .Call (.Name x p0) [e, .Name y p1] [] p =>
    if b : freeB G cs x "isinstance" = true then (match q : tyOf y, cE G n cs e with
      | some ks, some m => if hs : notStar e = true then if hy : isGlb (cs.sc.names.lookup y) = true then if hf : G.free.contains y = true then some ⟨eIsi ks m.1, fun X a Φ k h => by
          obtain ⟨h1, h2, h3⟩ := freeB_ok b h
          obtain ⟨t1, t2, t3⟩ := tyOf_some q
          rw [h1]
          exact se_isi h.K h2 h3 (h.gl' hy) (h.glb.free y hf) t1 t2 t3 (m.2 X a Φ k h) (star_cons hs) (star_cons rfl) (star_any rfl)⟩ else none else none else none
      | _, _ => none)
    else cM G n cs x p0 e (.Name y p1) [] p
  | n + 1, cs, .Call (.Name x p0) (e1 :: e2 :: es) [] p => cM G n cs x p0 e1 e2 es p
  | n + 1, cs, .Call (.Attribute o x ap) [] [] p =>
    if hx : x = "pop" then
      if hl : (ap.endLine == p.line) = true then
        if hb : isCall0 o = false then (cH G n cs o).map fun m => ⟨ePop m.1, fun X a Φ k h => by rw [hx]; exact se_pop (m.2 X a Φ k h) (attr_base hb) hl⟩
        else none
      else none
    else if hx : x = "copy" then (cO G n cs (.Call (.Attribute o x ap) [] [] p)).map fun m => if cs.cellAt p = true then ⟨eCell m.1, fun X a Φ k h => se_cell (m.2 X a Φ k h)⟩ else ⟨eFz m.1, fun X a Φ k h => se_fz (m.2 X a Φ k h)⟩
    else if hr : isCall0 o = false ∧ (ap.endLine == p.line) = true then (match q : clsOf G cs x with
      | some c => (match q2 : G.meths.lookup (c, x), cE G n cs o with
        | some (qn, np), some mo => some ⟨eMeth c x qn np mo.1 aNil, fun X a Φ k h => by
            obtain ⟨hc, f, fd, ps, hm, hb, F⟩ := h.glb.meths c x qn np q2
            obtain ⟨pl, hf⟩ := recv_form (env := X.env) (m := x) (apos := ap) (pos := p) (es := []) hr.1 rfl (by decide) hr.2
            exact se_meth0 h.K (mo.2 X a Φ k h) hc hm F (h.room.mono (by omega)) hb h.tk hf⟩
        | _, _ => none)
      | none => none) else none
  | n + 1, cs, .Call (.Attribute o x ap) [e] [] p =>
    if hx : x = "append" ∨ x = "pop" then
      if hl : (ap.endLine == p.line) = true then
        if hb : isCall0 o = false then
          if hs : notStar e = true then
            if hx : x = "append" then (match cH G n cs o, cE G n cs e with
              | some mh, some m => some ⟨eApp mh.1 m.1, fun X a Φ k h => by rw [hx]; exact se_app (mh.2 X a Φ k h) (m.2 X a Φ k h) (attr_base hb) hl (star_cons hs)⟩
              | _, _ => none)
            else if hx : x = "pop" then (match cH G n cs o, cE G n cs e with
              | some mh, some m => some ⟨ePopAt mh.1 m.1, fun X a Φ k h => by rw [hx]; exact se_popAt (mh.2 X a Φ k h) (m.2 X a Φ k h) (attr_base hb) hl (star_cons hs)⟩
              | _, _ => none)
            else none
          else none
        else none
      else none
    else if hx : x = "index" ∧ (ap.endLine == p.line) = true ∧ isCall0 o = false ∧ notStar e = true then (match cH G n cs o, cE G n cs e with
      | some mh, some m => some ⟨eIndex mh.1 m.1, fun X a Φ k h => by rw [hx.1]; exact se_index (by have := h.hu; omega) h.K (mh.2 X a Φ k h) (m.2 X a Φ k h) (attr_base hx.2.2.1) hx.2.1 (star_cons hx.2.2.2)⟩
      | _, _ => none)
    else cQ G n cs o x ap e [] p
  | n + 1, cs, .Call (.Attribute o x ap) [e, e2] [] p =>
    if hx : x = "get" then
      if hl : (ap.endLine == p.line) = true then
        if hb : isCall0 o = false then
          if hs : notStar e = true ∧ notStar e2 = true then (match cH G n cs o, cE G n cs e, cE G n cs e2 with
            | some mh, some mk, some md => some ⟨eGetD mh.1 mk.1 md.1, fun X a Φ k h => by rw [hx]; exact se_getD (by have := h.hu; omega) (mh.2 X a Φ k h) (mk.2 X a Φ k h) (md.2 X a Φ k h) (m2_ok hb hl hs.1 hs.2)⟩
            | _, _, _ => none)
          else none
        else none
      else none
    else cQ G n cs o x ap e [e2] p
  | n + 1, cs, .Call (.Attribute o x ap) (e :: e2 :: e3 :: es) [] p => cQ G n cs o x ap e (e2 :: e3 :: es) p
  | _ + 1, _, _ => none
/-- o.m(e, ..), a method of the text -/
def cQ (G : Glb) : Nat → (cs : Cs) → (o : Expr) → (x : Str) → (ap : Pos) → (e : Expr) → (es : List Expr) → (p : Pos) → Option (CE G cs (.Call (.Attribute o x ap) (e :: es) [] p))
  | 0, _, _, _, _, _, _, _ => none
  | n + 1, cs, o, x, ap, e, es, p => if hr : isCall0 o = false ∧ (ap.endLine == p.line) = true ∧ (e :: es).length < 20 then if hs : (e :: es).all notStar = true then (match q : clsOf G cs x with
      | some c => (match q2 : G.meths.lookup (c, x), cE G n cs o, cA G n cs (e :: es) with
        | some (qn, np), some mo, some ms => some ⟨eMeth c x qn np mo.1 ms.1, fun X a Φ k h => by
            obtain ⟨hc, f, fd, ps, hm, hb, F⟩ := h.glb.meths c x qn np q2
            obtain ⟨pl, hf⟩ := recv_form (env := X.env) (m := x) (apos := ap) (pos := p) (es := e :: es) hr.1 hs hr.2.2 hr.2.1
            rw [List.all_cons, Bool.and_eq_true] at hs
            exact se_meth h.K (mo.2 X a Φ k h) hc hm F (h.room.mono (by omega)) hb h.tk (ms.2 X a Φ k h) (star_cons hs.1) (star_any hs.2) hf⟩
        | _, _, _ => none)
      | none => none) else none else none
/-- min, max of two; calls of more arguments -/
def cM (G : Glb) : Nat → (cs : Cs) → (x : Str) → (p0 : Pos) → (e1 e2 : Expr) → (es : List Expr) → (p : Pos) → Option (CE G cs (.Call (.Name x p0) (e1 :: e2 :: es) [] p))
  | 0, _, _, _, _, _, _, _ => none
  | n + 1, cs, x, p0, e1, e2, es, p =>
    if hs : (e1 :: e2 :: es).all notStar = true then
      if b : freeB G cs x "min" = true then (cA G n cs (e1 :: e2 :: es)).map fun m => ⟨eMM2 true m.1, fun X a Φ k h => by
        obtain ⟨h1, h2, h3⟩ := freeB_ok b h
        rw [h1]
        rw [List.all_cons, Bool.and_eq_true] at hs
        exact se_min2 h.calm h2 h3 (m.2 X a Φ k h) (star_cons hs.1) (star_any hs.2)⟩
      else if b : freeB G cs x "max" = true then (cA G n cs (e1 :: e2 :: es)).map fun m => ⟨eMM2 false m.1, fun X a Φ k h => by
        obtain ⟨h1, h2, h3⟩ := freeB_ok b h
        rw [h1]
        rw [List.all_cons, Bool.and_eq_true] at hs
        exact se_max2 h.calm h2 h3 (m.2 X a Φ k h) (star_cons hs.1) (star_any hs.2)⟩
      else cF G n cs x p0 e1 (e2 :: es) p
    else none
/-- a call of a def of the text -/
def cF (G : Glb) : Nat → (cs : Cs) → (x : Str) → (p0 : Pos) → (e : Expr) → (es : List Expr) → (p : Pos) → Option (CE G cs (.Call (.Name x p0) (e :: es) [] p))
  | 0, _, _, _, _, _, _ => none
  | n + 1, cs, x, p0, e, es, p => match q : G.funs.lookup x, cA G n cs (e :: es) with
    | some (f, np), some ms => if hs : (e :: es).all notStar = true then if hg : isGlb (cs.sc.names.lookup x) = true then if hn : okName x = true then some ⟨eCall f np ms.1, fun X a Φ k h => by
        obtain ⟨fa, fd, ps, h1, h2, h3, h4⟩ := h.glb.funs x f np q
        rw [List.all_cons, Bool.and_eq_true] at hs
        exact se_call h.K h4 (h.room.mono (by omega)) (h.gl' hg) h1 h2 h3 h.tk (ms.2 X a Φ k h) (okName1 hn).1 (star_cons hs.1) (star_any hs.2)⟩ else none else none else none
    | none, some ms => (match q2 : G.mks.lookup x with
      | some (qn, np, fr) => if hs : (e :: es).all notStar = true then if hg : isGlb (cs.sc.names.lookup x) = true then if hn : okName x = true then some ⟨eMake x qn np fr ms.1, fun X a Φ k h => by
          obtain ⟨h1, hc, f, fd, ps, hM, hb, F⟩ := h.glb.mks x qn np fr q2
          rw [List.all_cons, Bool.and_eq_true] at hs
          exact se_make h.K hM hc F h.room (h.gl' hg) h1 hb h.tk (ms.2 X a Φ k h) (okName1 hn).1 (star_cons hs.1) (star_any hs.2)⟩ else none else none else none
      | none => none)
    | _, _ => none
def cH (G : Glb) : Nat → (cs : Cs) → (e : Expr) → Option (CH G cs e)
  | 0, _, _ => none
  | n + 1, cs, .Name x p =>
    if hn : okName x = true then
      if hv : isVis (cs.sc.names.lookup x) = true then match slot cs x with
        | some ⟨i, hi⟩ => some ⟨mSlot i, fun X a Φ k h => sh_slot (by rw [h.N]; exact hi) (h.vis' hv) (okName1 hn).1 (okName1 hn).2⟩
        | none => none
      else none
    else none
  | n + 1, cs, e => (cE G n cs e).map fun m => ⟨hdl m.1, fun X a Φ k h => sh_of (m.2 X a Φ k h)⟩
def cT (G : Glb) : Nat → (cs : Cs) → (e : Expr) → Option (CT G cs e)
  | 0, _, _ => none
  | n + 1, cs, .UnaryOp .Not e p => (cT G n cs e).map fun m => ⟨tNot' m.1, fun X a Φ k h => st_not (m.2 X a Φ k h)⟩
  | n + 1, cs, .BoolOp op es p => (cWo G n cs op es p).map fun m => ⟨m.1, fun X a Φ k h => sw_pt (m.2 X a Φ k h)⟩
  | n + 1, cs, .Compare e1 [o] [e2] p => match q : opC o with
    | some b => if hd : cs.dq = true ∧ isEqc b = true then (match cH G n cs e1, cH G n cs e2 with
      | some m1, some m2 => some ⟨tV (eEqH (isNe b) m1.1 m2.1), fun X a Φ k h => by rw [opC_some q, isNe_ok hd.2]; exact st_eqH h.K (by have := h.hu; omega) (isNe b) (m1.2 X a Φ k h) (m2.2 X a Φ k h)⟩
      | _, _ => none)
      else (match cE G n cs e1, cE G n cs e2 with
      | some m1, some m2 => some ⟨tV (eCop b m1.1 m2.1), fun X a Φ k h => by rw [opC_some q]; exact st_cop h.K (by have := h.hu; omega) b (m1.2 X a Φ k h) (m2.2 X a Φ k h)⟩
      | _, _ => none)
    | none => (match q : opI o, cE G n cs e1, cH G n cs e2 with
      | some b, some m1, some m2 => if hb : behindInMarks (inOp b) e2 = false then some ⟨tV (eMem b m1.1 m2.1), fun X a Φ k h => by rw [opI_some q]; exact st_mem h.K (by have := h.hu; omega) b (m1.2 X a Φ k h) (m2.2 X a Φ k h) hb⟩ else none
      | _, _, _ => none)
  | n + 1, cs, .Compare e1 [o, o'] [e2, e3] p => match q : opC o, q' : opC o' with
    | some b, some b' => (match cE G n cs e1, cE G n cs e2, cE G n cs e3 with
      | some m1, some m2, some m3 => if hm : lastMarks [copOf b, copOf b'] [e2, e3] = false then some ⟨tV (eChain b b' m1.1 m2.1 m3.1), fun X a Φ k h => by rw [opC_some q, opC_some q']; exact st_chain h.K (by have := h.hu; omega) b b' (m1.2 X a Φ k h) (m2.2 X a Φ k h) (m3.2 X a Φ k h) hm⟩ else none
      | _, _, _ => none)
    | _, _ => none
  | n + 1, cs, e => if hp : plainT e = true then (cH G n cs e).map fun m => ⟨tTru m.1, fun X a Φ k h => st_tru h.K (m.2 X a Φ k h) (isTrue_plain' hp)⟩ else none
def cWo (G : Glb) : Nat → (cs : Cs) → (op : BoolOp) → (es : List Expr) → (p : Pos) → Option (CWo G cs op es p)
  | 0, _, _, _, _ => none
  | n + 1, cs, .And, [e], p => (cT G n cs e).map fun m => ⟨m.1, fun X a Φ k h => sw_and1 (m.2 X a Φ k h)⟩
  | n + 1, cs, .Or, [e], p => (cT G n cs e).map fun m => ⟨m.1, fun X a Φ k h => sw_or1 (m.2 X a Φ k h)⟩
  | n + 1, cs, .And, e :: e' :: es, p => match cT G n cs e, cWo G n cs .And (e' :: es) p with
    | some m1, some m2 => some ⟨tAnd' m1.1 m2.1, fun X a Φ k h => sw_and (m1.2 X a Φ k h) (m2.2 X a Φ k h)⟩
    | _, _ => none
  | n + 1, cs, .Or, e :: e' :: es, p => match cT G n cs e, cWo G n cs .Or (e' :: es) p with
    | some m1, some m2 => some ⟨tOr' m1.1 m2.1, fun X a Φ k h => sw_or (m1.2 X a Φ k h) (m2.2 X a Φ k h)⟩
    | _, _ => none
  | _ + 1, _, _, _, _ => none
def cBo (G : Glb) : Nat → (cs : Cs) → (op : BoolOp) → (es : List Expr) → (p : Pos) → Option (CBo G cs op es p)
  | 0, _, _, _, _ => none
  | n + 1, cs, op, [e], p => (cE G n cs e).map fun m => ⟨m.1, fun X a Φ k h => se_and1 (m.2 X a Φ k h)⟩
  | n + 1, cs, .And, e :: e' :: es, p => match cE G n cs e, cBo G n cs .And (e' :: es) p with
    | some m1, some m2 => some ⟨eAnd m1.1 m2.1, fun X a Φ k h => se_and (m1.2 X a Φ k h) (m2.2 X a Φ k h)⟩
    | _, _ => none
  | n + 1, cs, .Or, e :: e' :: es, p => match cE G n cs e, cBo G n cs .Or (e' :: es) p with
    | some m1, some m2 => some ⟨eOr m1.1 m2.1, fun X a Φ k h => se_or (m1.2 X a Φ k h) (m2.2 X a Φ k h)⟩
    | _, _ => none
  | _ + 1, _, _, _, _ => none
def cA (G : Glb) : Nat → (cs : Cs) → (es : List Expr) → Option (CA G cs es)
  | 0, _, _ => none
  | n + 1, cs, [] => some ⟨aNil, fun X a Φ k h => sa_nil⟩
  | n + 1, cs, e :: es => match cE G n cs e, cA G n cs es with
    | some m, some ms => if hs : notStar e = true then some ⟨aCons m.1 ms.1, fun X a Φ k h => sa_cons (m.2 X a Φ k h) (ms.2 X a Φ k h) (star_cons hs)⟩ else none
    | _, _ => none
def cTs (G : Glb) : Nat → (cs : Cs) → (es : List Expr) → Option (CTs G cs es)
  | 0, _, _ => none
  | n + 1, cs, [] => some ⟨ret true, fun X a Φ k h => sts_nil⟩
  | n + 1, cs, [e] => (cT G n cs e).map fun m => ⟨m.1, fun X a Φ k h => sts_one (m.2 X a Φ k h)⟩
  | _ + 1, _, _ => none
/-- a fresh list or dict -/
def cO (G : Glb) : Nat → (cs : Cs) → (e : Expr) → Option (CO G cs e)
  | 0, _, _ => none
  | n + 1, cs, .List es p => (cA G n cs es).map fun m => ⟨oLst m.1, fun X a Φ k h => so_lst (m.2 X a Φ k h)⟩
  | n + 1, cs, .Call (.Name x p0) [e] [] p => if hs : notStar e = true then
      if b : freeB G cs x "list" = true then (cH G n cs e).map fun m => ⟨oListOf m.1, fun X a Φ k h => by obtain ⟨h1, h2, h3⟩ := freeB_ok b h; rw [h1]; exact so_listOf h2 h3 (m.2 X a Φ k h) h.K (star_cons hs)⟩
      else none
    else none
  | n + 1, cs, .Call (.Attribute o x ap) [] [] p => if hx : x = "copy" then
      if hl : (ap.endLine == p.line) = true then
        if hb : isCall0 o = false then (cH G n cs o).map fun m => ⟨oDCopy m.1, fun X a Φ k h => by rw [hx]; exact so_dcopy (m.2 X a Φ k h) (attr_base hb) hl⟩
        else none
      else none
    else none
  | n + 1, cs, .Dict [none, some ke] [de, ve] p => (match cH G n cs de, cE G n cs ke, cE G n cs ve with
    | some md, some mk, some mv => some ⟨oMerge md.1 mk.1 mv.1, fun X a Φ k h => so_merge (md.2 X a Φ k h) (mk.2 X a Φ k h) (mv.2 X a Φ k h)⟩
    | _, _, _ => none)
  | n + 1, cs, .Dict (ke :: ks) (ve :: vs) p => if hq : (ke :: ks).all (·.isSome) = true ∧ (ke :: ks).length = (ve :: vs).length ∧ (ke :: ks).length ≤ 15 then (cD G n cs p (ke :: ks) (ve :: vs)).map fun m => ⟨oDisp m.1, fun X a Φ k h => so_disp (m.2 X a Φ k h) hq.1 hq.2.1 (List.cons_ne_nil _ _) hq.2.2⟩ else none
  | n + 1, cs, .Dict [] [] p => if cs.dkAt p = true then some ⟨oDic true, fun X a Φ k h => so_dicT⟩ else some ⟨oDic false, fun X a Φ k h => so_dicK⟩
  | n + 1, cs, .ListComp e [⟨tg, it, ifs, ia⟩] sc p => match cI G n cs tg it, cG G n (cs.blk sc) tg, cTs G n (cs.blk sc) ifs, cE G n (cs.blk sc) e with
    | some mi, some f, some t, some m => if h0 : ia = 0 then if hb : blkC cs.N cs.sc sc (ownOf cs sc) = true then if hi : isSet it = false then if hs : subL f.1.1 ((ownOf cs sc).map (·.2)) = true then
        some ⟨oLC mi.1 f.1.2 t.1 m.1 ((ownOf cs sc).map (·.2)), fun X a Φ k h => by
          rw [h0]
          exact so_lc h.K h.calm h.nd (mi.2 X a Φ k h) (h.blkOk hb) (subL_ok hs) (fun s H C cl fp b ib => f.2.1 _ b Φ k (h.blk hb s H C cl fp b ib)) (fun s H C cl fp b ib => t.2 _ b Φ k (h.blk hb s H C cl fp b ib)) (fun s H C cl fp b ib => m.2 _ b Φ k (h.blk hb s H C cl fp b ib)) (no_set hi)⟩
      else none else none else none else none
    | _, _, _, _ => none
  | n + 1, cs, .ListComp e [⟨tg, it, ifs, ia⟩, ⟨tg1, it1, ifs1, ia1⟩] sc p => match cI G n cs tg it, cG G n (cs.blk sc) tg, cTs G n (cs.blk sc) ifs, cE G n (cs.blk sc) e with
    | some mi, some f, some t, some m => (match cI G n (cs.blk sc) tg1 it1, cG G n (cs.blk sc) tg1, cTs G n (cs.blk sc) ifs1 with
      | some mi1, some f1, some t1 => if h0 : ia = 0 ∧ ia1 = 0 then if hb : blkC cs.N cs.sc sc (ownOf cs sc) = true then if hi : isSet it = false ∧ isSet it1 = false then if hs : subL f.1.1 ((ownOf cs sc).map (·.2)) = true ∧ subL f1.1.1 ((ownOf cs sc).map (·.2)) = true then
          some ⟨oLC2 mi.1 f.1.2 t.1 mi1.1 f1.1.2 t1.1 m.1 ((ownOf cs sc).map (·.2)) f1.1.1, fun X a Φ k h => by
            rw [h0.1, h0.2]
            exact so_lc2 h.K h.calm h.nd (mi.2 X a Φ k h) (h.blkOk hb) (subL_ok hs.1) (fun j hj => hj) (subL_ok hs.2) (fun s H C cl fp b ib => f.2.1 _ b Φ k (h.blk hb s H C cl fp b ib)) (fun s H C cl fp b ib => t.2 _ b Φ k (h.blk hb s H C cl fp b ib))
              (fun s H C cl fp b ib => mi1.2 _ b Φ k (h.blk hb s H C cl fp b ib)) (fun s H C cl fp b ib => f1.2.1 _ b Φ k (h.blk hb s H C cl fp b ib)) (fun s H C cl fp b ib => t1.2 _ b Φ k (h.blk hb s H C cl fp b ib)) (fun s H C cl fp b ib => m.2 _ b Φ k (h.blk hb s H C cl fp b ib)) (no_set hi.1) (fun env => no_set hi.2)⟩
        else none else none else none else none
      | _, _, _ => none)
    | _, _, _, _ => none
  | n + 1, cs, .DictComp kx vx [⟨tg, it, ifs, ia⟩] sc p => match cI G n cs tg it, cG G n (cs.blk sc) tg, cTs G n (cs.blk sc) ifs, cE G n (cs.blk sc) kx, cE G n (cs.blk sc) vx with
    | some mi, some f, some t, some mk, some mv => if h0 : ia = 0 then if hb : blkC cs.N cs.sc sc (ownOf cs sc) = true then if hi : isSet it = false then if hs : subL f.1.1 ((ownOf cs sc).map (·.2)) = true then
        some ⟨oDC (cs.dkAt p) mi.1 f.1.2 t.1 mk.1 mv.1 ((ownOf cs sc).map (·.2)), fun X a Φ k h => by
          rw [h0]
          exact so_dc (cs.dkAt p) (by have := h.hu; omega) h.calm h.nd (mi.2 X a Φ k h) (h.blkOk hb) (subL_ok hs) (fun s H C cl fp b ib => f.2.1 _ b Φ k (h.blk hb s H C cl fp b ib)) (fun s H C cl fp b ib => t.2 _ b Φ k (h.blk hb s H C cl fp b ib)) (fun s H C cl fp b ib => mk.2 _ b Φ k (h.blk hb s H C cl fp b ib)) (fun s H C cl fp b ib => mv.2 _ b Φ k (h.blk hb s H C cl fp b ib)) (no_set hi)⟩
      else none else none else none else none
    | _, _, _, _, _ => none
  | _ + 1, _, _ => none
/-- the pairs of a display -/
def cD (G : Glb) : Nat → (cs : Cs) → (p : Pos) → (ks : List (Option Expr)) → (vs : List Expr) → Option (CD G cs p ks vs)
  | 0, _, _, _, _ => none
  | n + 1, cs, p, [], [] => some ⟨pNil, fun X a Φ k h => sp_nil⟩
  | n + 1, cs, p, some ke :: ks, ve :: vs => (match cE G n cs ke, cE G n cs ve, cD G n cs p ks vs with
    | some mk, some mv, some mr => some ⟨pCons mk.1 mv.1 mr.1, fun X a Φ k h => sp_cons (mk.2 X a Φ k h) (mv.2 X a Φ k h) (mr.2 X a Φ k h)⟩
    | _, _, _ => none)
  | _ + 1, _, _, _, _ => none
/-- any(within(..) for ..), sorted(set(..)), sum(..) -/
def cY (G : Glb) : Nat → (cs : Cs) → (x : Str) → (p0 : Pos) → (e : Expr) → (p : Pos) → Option (CE G cs (.Call (.Name x p0) [e] [] p))
  | 0, _, _, _, _, _ => none
  | n + 1, cs, x, p0, .GeneratorExp (.Call (.Name wn q0) [.Name x1 q1, .Name y q2] [] q3) [⟨.Name x2 q4, iter, [], ia⟩] scope gp, p => if b : freeB G cs x "any" = true then (match cH G n cs iter, slot cs y with
      | some mh, some ⟨iy, hN⟩ => if hq : ia = 0 ∧ wn = ("within" : Str) ∧ x2 = x1 ∧ G.win = true ∧ cs.gen = true ∧ isLstE iter = false ∧ isSet iter = false ∧ winSB cs.sc scope x1 y = true then some ⟨eAnyW mh.1 iy, fun X a Φ k h => by
          obtain ⟨h1, h2, h3⟩ := freeB_ok b h
          obtain ⟨e0, e1, e2, e3, e4, e5, e6, e7⟩ := hq
          obtain ⟨c, P, t1, t2, t3⟩ := h.tabs e4
          rw [h1, e0, e1, e2]
          exact se_anyW h.K h.room h2 h3 (h.glb.win e3) t2 t1 t3 (winSB_ok h e7) (by rw [h.N]; exact hN) (mh.2 X a Φ k h) (fold_no e5 e6) (star_cons rfl)⟩ else none
      | _, _ => none) else none
  | n + 1, cs, x, p0, .Call (.Name y p1) [e] [] p2, p => if b : freeB G cs x "sorted" = true ∧ freeB G cs y "set" = true then (if hs : notStar e = true then (cH G n cs e).map fun m => ⟨eSortSet m.1, fun X a Φ k h => by
      obtain ⟨h1, h2, h3⟩ := freeB_ok b.1 h
      obtain ⟨g1, g2, g3⟩ := freeB_ok b.2 h
      rw [h1, g1]
      exact se_sortSet h.calm h2 h3 g2 g3 (m.2 X a Φ k h) h.K (star_cons hs)⟩ else none) else none
  | n + 1, cs, x, p0, .ListComp e gs sc p1, p => if b : freeB G cs x "sum" = true then (cH G n cs (.ListComp e gs sc p1)).map fun m => ⟨eSum m.1, fun X a Φ k h => by
      obtain ⟨h1, h2, h3⟩ := freeB_ok b h
      rw [h1]
      exact se_sum h.calm h2 h3 (m.2 X a Φ k h) h.K (star_cons rfl)⟩ else none
  | _ + 1, _, _, _, _, _ => none
/-- a slice's part -/
def cP (G : Glb) : Nat → (cs : Cs) → (e : Option Expr) → Option (CP G cs e)
  | 0, _, _ => none
  | n + 1, cs, none => some ⟨pNone, fun X a Φ k h => sp_none⟩
  | n + 1, cs, some e => (cE G n cs e).map fun m => ⟨pSome m.1, fun X a Φ k h => sp_some (m.2 X a Φ k h)⟩
/-- what is walked -/
def cI (G : Glb) : Nat → (cs : Cs) → (tg e : Expr) → Option (CI G cs tg e)
  | 0, _, _, _ => none
  | n + 1, cs, .Tuple ts kk tp, .Call (.Name x p0) [e] [] p =>
    if b : freeB G cs x "enumerate" = true then (match cE G n cs e with
      | some m => if hs : notStar e = true then some ⟨iEnumU m.1, fun X a Φ k h => by obtain ⟨h1, h2, h3⟩ := freeB_ok b h; rw [h1]; exact si_enum h.K h2 h3 (m.2 X a Φ k h) (star_cons hs)⟩ else none
      | none => none)
    else (cE G n cs (.Call (.Name x p0) [e] [] p)).map fun m => ⟨iItems m.1, fun X a Φ k h => si_seq h.K (m.2 X a Φ k h)⟩
  | n + 1, cs, tg, .Call (.Name x p0) [e] [] p =>
    if b : freeB G cs x "range" = true then (match cA G n cs [e] with
      | some m => if hs : notStar e = true then some ⟨iRange m.1, fun X a Φ k h => by obtain ⟨h1, h2, h3⟩ := freeB_ok b h; rw [h1]; exact si_range h2 h3 (m.2 X a Φ k h) (star_cons hs)⟩ else none
      | none => none)
    else if b : freeB G cs x "reversed" = true then (match cE G n cs e with
      | some m => if hs : notStar e = true then some ⟨iRevU m.1, fun X a Φ k h => by obtain ⟨h1, h2, h3⟩ := freeB_ok b h; rw [h1]; exact si_rev h.K h2 h3 (m.2 X a Φ k h) (star_cons hs)⟩ else none
      | none => none)
    else (cE G n cs (.Call (.Name x p0) [e] [] p)).map fun m => ⟨iItems m.1, fun X a Φ k h => si_seq h.K (m.2 X a Φ k h)⟩
  | n + 1, cs, tg, .Call (.Name x p0) [e, e1] [] p =>
    if b : freeB G cs x "range" = true then (match cA G n cs [e, e1] with
      | some m => if hs : notStar e = true ∧ notStar e1 = true then some ⟨iRange2 m.1, fun X a Φ k h => by obtain ⟨h1, h2, h3⟩ := freeB_ok b h; rw [h1]; exact si_range2 h2 h3 (m.2 X a Φ k h) (by rw [star_cons hs.1, star_cons hs.2]; rfl) (star_cons hs.2)⟩ else none
      | none => none)
    else (cE G n cs (.Call (.Name x p0) [e, e1] [] p)).map fun m => ⟨iItems m.1, fun X a Φ k h => si_seq h.K (m.2 X a Φ k h)⟩
  | n + 1, cs, .Tuple ts kk tp, .Call (.Attribute e x ap) [] [] p =>
    if hx : x = "items" then if hl : (ap.endLine == p.line) = true then if hb : isCall0 e = false then (cE G n cs e).map fun m => ⟨iPairsC m.1, fun X a Φ k h => by rw [hx]; exact si_itemsC (m.2 X a Φ k h) (attr_base hb) hl⟩ else none else none
    else (cE G n cs (.Call (.Attribute e x ap) [] [] p)).map fun m => ⟨iItems m.1, fun X a Φ k h => si_seq h.K (m.2 X a Φ k h)⟩
  | n + 1, cs, tg, e => (cE G n cs e).map fun m => ⟨iItems m.1, fun X a Φ k h => si_seq h.K (m.2 X a Φ k h)⟩
end
end EL
set_option Elab.async false
set_option linter.all false
set_option maxRecDepth 100000
/-! EC15: the compiler of statements. -/
namespace EL
open PySem PySem.Spec PyProof.Rows L2

abbrev CS (G : Glb) (cs : Cs) (s : Stmt) := { m : M Fl // ∀ X a Φ k, XOk G cs X a Φ k → SS X a Φ s m }
abbrev CB (G : Glb) (cs : Cs) (s : List Stmt) := { m : M Fl // ∀ X a Φ k, XOk G cs X a Φ k → SB X a Φ s m }

theorem sub_asg {e1 e2 : Expr} {pos' : Pos} {env : Env} (h : isSlice e2 = false) : ∀ v, assign (.Subscript e1 e2 pos') env v = (do
      let ov ← holding [v] (eval e1 env)
      let iv ← holding [v, ov] (eval e2 env)
      standAt pos'
      holding [v, ov, iv] (setItem ov iv v)
      release [v, ov, iv] []) := by
  intro v
  cases e2 <;> first | rfl | cases h
def lineOk (py pos : Pos) : Bool := py.line == pos.line
def notIn (scope : Scope) (y : Str) : Bool := (scope.names.any fun (n, k) => n == y && (k == .local || k == .cell)) == false
theorem XOk.swap {G : Glb} {cs : Cs} {X : Cx} {a : Act} {Φ : Phi} {k : Nat} (h : XOk G cs X a Φ k) {elt : Expr} {gs : List Comprehension} {scope : Scope} {pos py : Pos} {y : Str} (hy : cs.sc.names.lookup y = some .local) (hl : lineOk py pos = true) (ha : notIn scope y = true) {l : Nat} :
    swapsWith (.ListComp elt gs scope pos) (some (.Name y py)) l X.env = pure true := by
  refine sw_true h.kind (h.lcl y hy) hl ?_
  unfold notIn at ha
  exact eq_of_beq ha
theorem XOk.swapD {G : Glb} {cs : Cs} {X : Cx} {a : Act} {Φ : Phi} {k : Nat} (h : XOk G cs X a Φ k) {kx vx : Expr} {gs : List Comprehension} {scope : Scope} {pos py : Pos} {y : Str} (hy : cs.sc.names.lookup y = some .local) (hl : lineOk py pos = true) (ha : notIn scope y = true) {l : Nat} :
    swapsWith (.DictComp kx vx gs scope pos) (some (.Name y py)) l X.env = pure true := by
  refine sw_dict h.kind (h.lcl y hy) hl ?_
  unfold notIn at ha
  exact eq_of_beq ha
/-- name = [..] -/
def cL (G : Glb) (n : Nat) (cs : Cs) (x : Str) (p' : Pos) (e : Expr) (pos : Pos) : Option (CS G cs (.Assign [.Name x p'] e pos)) := match e with
  | .ListComp e [⟨tg, it, ifs, ia⟩] sc p => match slot cs x, cI G n cs tg it, cG G n (cs.blk sc) tg, cTs G n (cs.blk sc) ifs, cE G n (cs.blk sc) e with
    | some ⟨i, hx⟩, some mi, some f, some t, some m => if h0 : ia = 0 then if hb : blkC cs.N cs.sc sc (ownOf cs sc) = true then if hi : isSet it = false then if hs : subL f.1.1 ((ownOf cs sc).map (·.2)) = true then if hq : cs.sc.names.lookup x = some .local ∧ lineOk p' p = true ∧ notIn sc x = true then
        some ⟨sOwn i (oLC mi.1 f.1.2 t.1 m.1 ((ownOf cs sc).map (·.2))), fun X a Φ k h => by
          rw [h0]
          exact ss_lc (by rw [h.N]; exact hx) (h.lcl x hq.1) (h.swap hq.1 hq.2.1 hq.2.2) h.K h.calm h.nd (mi.2 X a Φ k h) (h.blkOk hb) (subL_ok hs) (fun s H C cl fp b ib => f.2.1 _ b Φ k (h.blk hb s H C cl fp b ib)) (fun s H C cl fp b ib => t.2 _ b Φ k (h.blk hb s H C cl fp b ib)) (fun s H C cl fp b ib => m.2 _ b Φ k (h.blk hb s H C cl fp b ib)) (no_set hi)⟩
      else none else none else none else none else none
    | _, _, _, _, _ => none
  | .ListComp e [⟨tg, it, ifs, ia⟩, ⟨tg1, it1, ifs1, ia1⟩] sc p => match cI G n cs tg it, cG G n (cs.blk sc) tg, cTs G n (cs.blk sc) ifs, cE G n (cs.blk sc) e with
    | some mi, some f, some t, some m => (match slot cs x, cI G n (cs.blk sc) tg1 it1, cG G n (cs.blk sc) tg1, cTs G n (cs.blk sc) ifs1 with
      | some ⟨i, hx⟩, some mi1, some f1, some t1 => if h0 : ia = 0 ∧ ia1 = 0 then if hb : blkC cs.N cs.sc sc (ownOf cs sc) = true then if hi : isSet it = false ∧ isSet it1 = false then if hs : subL f.1.1 ((ownOf cs sc).map (·.2)) = true ∧ subL f1.1.1 ((ownOf cs sc).map (·.2)) = true then if hq : cs.sc.names.lookup x = some .local ∧ lineOk p' p = true ∧ notIn sc x = true then
          some ⟨sOwn i (oLC2 mi.1 f.1.2 t.1 mi1.1 f1.1.2 t1.1 m.1 ((ownOf cs sc).map (·.2)) f1.1.1), fun X a Φ k h => by
            rw [h0.1, h0.2]
            exact ss_lc2 (by rw [h.N]; exact hx) (h.lcl x hq.1) (h.swap hq.1 hq.2.1 hq.2.2) h.K h.calm h.nd (mi.2 X a Φ k h) (h.blkOk hb) (subL_ok hs.1) (fun j hj => hj) (subL_ok hs.2) (fun s H C cl fp b ib => f.2.1 _ b Φ k (h.blk hb s H C cl fp b ib)) (fun s H C cl fp b ib => t.2 _ b Φ k (h.blk hb s H C cl fp b ib))
              (fun s H C cl fp b ib => mi1.2 _ b Φ k (h.blk hb s H C cl fp b ib)) (fun s H C cl fp b ib => f1.2.1 _ b Φ k (h.blk hb s H C cl fp b ib)) (fun s H C cl fp b ib => t1.2 _ b Φ k (h.blk hb s H C cl fp b ib)) (fun s H C cl fp b ib => m.2 _ b Φ k (h.blk hb s H C cl fp b ib)) (no_set hi.1) (fun env => no_set hi.2)⟩
        else none else none else none else none else none
      | _, _, _, _ => none)
    | _, _, _, _ => none
  | .DictComp kx vx [⟨tg, it, ifs, ia⟩] sc p => match slot cs x, cI G n cs tg it, cG G n (cs.blk sc) tg, cTs G n (cs.blk sc) ifs with
    | some ⟨i, hx⟩, some mi, some f, some t => (match cE G n (cs.blk sc) kx, cE G n (cs.blk sc) vx with
      | some mk, some mv => if h0 : ia = 0 then if hb : blkC cs.N cs.sc sc (ownOf cs sc) = true then if hi : isSet it = false then if hs : subL f.1.1 ((ownOf cs sc).map (·.2)) = true then if hq : cs.sc.names.lookup x = some .local ∧ lineOk p' p = true ∧ notIn sc x = true then
          some ⟨sOwn i (oDC (cs.dkAt p) mi.1 f.1.2 t.1 mk.1 mv.1 ((ownOf cs sc).map (·.2))), fun X a Φ k h => by
            rw [h0]
            exact ss_dc (cs.dkAt p) (by have := h.hu; omega) (by rw [h.N]; exact hx) (h.lcl x hq.1) (h.swapD hq.1 hq.2.1 hq.2.2) h.calm h.nd (mi.2 X a Φ k h) (h.blkOk hb) (subL_ok hs) (fun s H C cl fp b ib => f.2.1 _ b Φ k (h.blk hb s H C cl fp b ib)) (fun s H C cl fp b ib => t.2 _ b Φ k (h.blk hb s H C cl fp b ib)) (fun s H C cl fp b ib => mk.2 _ b Φ k (h.blk hb s H C cl fp b ib)) (fun s H C cl fp b ib => mv.2 _ b Φ k (h.blk hb s H C cl fp b ib)) (no_set hi)⟩
        else none else none else none else none else none
      | _, _ => none)
    | _, _, _, _ => none
  | _ => none

mutual
def cS (G : Glb) : Nat → (cs : Cs) → (s : Stmt) → Option (CS G cs s)
  | 0, _, _ => none
  | n + 1, cs, .Pass p => some ⟨sNext, fun X a Φ k h => ss_pass⟩
  | n + 1, cs, .Break p => some ⟨sBreak, fun X a Φ k h => ss_break⟩
  | n + 1, cs, .Continue p => some ⟨sCont, fun X a Φ k h => ss_cont⟩
  | n + 1, cs, .Expr e p => if hc : isComp e = false then (cE G n cs e).map fun m => ⟨sExpr m.1, fun X a Φ k h => ss_expr (m.2 X a Φ k h) (swaps_no hc)⟩ else none
  | n + 1, cs, .Return none p => some ⟨sRetN, fun X a Φ k h => ss_retN⟩
  | n + 1, cs, .Return (some e) p => (cE G n cs e).map fun m => ⟨sRet m.1, fun X a Φ k h => ss_ret (m.2 X a Φ k h)⟩
  | n + 1, cs, .Assign [.Name x p'] e p => match slot cs x with
    | some ⟨i, hi⟩ => if hl : isLoc (cs.sc.names.lookup x) = true then
        if hc : isComp e = false then
          if cs.own.contains i = true then (match e with
            | .Dict [] [] pe => if cs.tk.contains i = true then some ⟨sOwn i (oDic true), fun X a Φ k h => ss_own h.nd (by rw [h.N]; exact hi) (h.loc' hl).1 (h.loc' hl).2 so_dicT (swaps_no hc)⟩
              else some ⟨sOwn i (oDic false), fun X a Φ k h => ss_own h.nd (by rw [h.N]; exact hi) (h.loc' hl).1 (h.loc' hl).2 so_dicK (swaps_no hc)⟩
            | e => (cO G n cs e).map fun m => ⟨sOwn i m.1, fun X a Φ k h => ss_own h.nd (by rw [h.N]; exact hi) (h.loc' hl).1 (h.loc' hl).2 (m.2 X a Φ k h) (swaps_no hc)⟩)
          else (cE G n cs e).map fun m => ⟨sSet i m.1, fun X a Φ k h => ss_set h.nd (by rw [h.N]; exact hi) (h.loc' hl).1 (h.loc' hl).2 (m.2 X a Φ k h) (swaps_no hc)⟩
        else cL G n cs x p' e p
      else none
    | none => none
  | n + 1, cs, .Assign [.Subscript e1 e2 p'] e p => if hi : isSlice e2 = false then (match cH G n cs e1, cE G n cs e2, cE G n cs e with
      | some mh, some m2, some m => some ⟨sItem mh.1 m2.1 m.1, fun X a Φ k h => ss_item (by have := h.hu; omega) (mh.2 X a Φ k h) (m2.2 X a Φ k h) (m.2 X a Φ k h) (sub_asg hi) swaps_sub sst_sub⟩
      | _, _, _ => none) else none
  | n + 1, cs, .Assign [.Tuple es kk p'] e p => if ht : isTup e = false then (match cE G n cs e, cG G n cs (.Tuple es kk p') with
      | some m, some f => some ⟨sAsgT m.1 f.1.2, fun X a Φ k h => ss_asgT (m.2 X a Φ k h) (f.2.1 X a Φ k h) f.2.2 rfl swaps_tup (sst_tup ht)⟩
      | _, _ => none) else none
  | n + 1, cs, .Assign [.Attribute o f p'] e p => if hf : G.flds.contains (cs.self, f) = true then (match cE G n cs o, cE G n cs e with
      | some mo, some m => some ⟨sFldS cs.self f mo.1 m.1, fun X a Φ k h => ss_fld h.K (by rw [← h.K]; exact h.glb.flds cs.self f hf) (mo.2 X a Φ k h) (m.2 X a Φ k h) swaps_attr⟩
      | _, _ => none) else none
  | n + 1, cs, .If c s1 s2 p => match cT G n cs c, cB G n cs s1, cB G n cs s2 with
    | some t, some m1, some m2 => some ⟨sIf t.1 m1.1 m2.1, fun X a Φ k h => ss_if (t.2 X a Φ k h) (m1.2 X a Φ k h) (m2.2 X a Φ k h)⟩
    | _, _, _ => none
  | n + 1, cs, .For tg it body [] p => if ht : cs.top = true then if hi : isSet it = false then (match cI G n cs tg it, cG G n cs tg, cB G n cs body with
      | some mi, some f, some m => some ⟨sFor mi.1 f.1.2 m.1, fun X a Φ k h => ss_for (h.pass ht) h.calm (mi.2 X a Φ k h) (f.2.1 X a Φ k h) f.2.2 (m.2 X a Φ k h) (no_set hi)⟩
      | _, _, _ => none) else none else none
  | n + 1, cs, .While c body [] p => if ht : cs.top = true then (match cT G n cs c, cB G n cs body with
      | some t, some m => some ⟨sWhile t.1 m.1, fun X a Φ k h => ss_while (h.pass ht) (t.2 X a Φ k h) (m.2 X a Φ k h)⟩
      | _, _ => none) else none
  | _ + 1, _, _ => none
def cB (G : Glb) : Nat → (cs : Cs) → (s : List Stmt) → Option (CB G cs s)
  | 0, _, _ => none
  | n + 1, cs, [] => some ⟨sNext, fun X a Φ k h => sb_nil⟩
  | n + 1, cs, [s] => match cS G n cs s with
    | some m => some ⟨m.1, fun X a Φ k h => sb_one (m.2 X a Φ k h)⟩
    | none => some ⟨fail, fun X a Φ k h => sb_one ss_fail⟩
  | n + 1, cs, s :: ss => match cS G n cs s, cB G n cs ss with
    | none, some m' => some ⟨sSeq fail m'.1, fun X a Φ k h => sb_cons ss_fail (m'.2 X a Φ k h)⟩
    | some m, some m' => some ⟨sSeq m.1 m'.1, fun X a Φ k h => sb_cons (m.2 X a Φ k h) (m'.2 X a Φ k h)⟩
    | _, _ => none
end
end EL
set_option Elab.async false
set_option linter.all false
set_option maxRecDepth 100000
/-! EC16: the defs of a text, all at once. -/
namespace EL
open PySem PySem.Spec PyProof.Rows L2

/-- one def: what the text says of it, its slots, its parameters, its E program -/
structure DE where
  d : He.DefD
  N : List Str
  ps : List Str
  own : List Nat
  tk : List Nat
  cell : Bool
  m : M Fl
  self : Str := ""
  mo : List (Str × Str) := []
  dk : Bool := true
  dq : Bool := false
  gen : Bool := false
  cx : List (Nat × Nat) := []
  dx : List (Nat × Nat) := []
def DE.cs (e : DE) : Cs := ⟨e.N, e.d.scope, e.own, e.tk, e.cell, true, e.self, e.mo, e.dk, e.dq, e.gen, e.cx, e.dx⟩
def envAt (e : DE) (us : List U) : List SV := us.map SV.val ++ List.replicate (e.N.length - us.length) .no
def runD (e : DE) (Φ : Phi) (us : List U) (hp : List EO) : Option FR := match e.m Φ ⟨envAt e us, hp⟩ with
  | none => none
  | some (.ok (.rt u) s) => some (.ok u s.hp)
  | some (.ok .nx s) => some (.ok .non s.hp)
  | some (.ok _ _) => none
  | some (.ex c f v s) => some (.ex c f v s.hp)
def findD (tb : List DE) (q : Str) : Option DE := tb.find? fun e => decide (e.d.qual = q)
/-- the table, so deep -/
def phi (tb : List DE) : Nat → Phi
  | 0 => fun _ _ _ => none
  | n + 1 => fun q us hp => match findD tb q with
    | some e => if us.length = e.ps.length then runD e (phi tb n) us hp else none
    | none => none

/-- a def's text answers its E program -/
structure DE.Ok (G : Glb) (e : DE) : Prop where
  S : FnScope e.N e.ps e.d.scope
  body : ∀ X a Φ k, XOk G e.cs X a Φ k → SB X a Φ e.d.body e.m
  dfl : e.d.dfl = []
  kwd : e.d.kwd = []
  bind : ∀ (kV doc pm : Value) (an : Option Addr) (cdv ct : Value) (us : List Value), us.length = e.ps.length → bindArgs (PySem.W.fnOf e.d.name e.d.qual e.d.params e.d.body e.d.scope .none kV doc pm an cdv ct) ⟨us, []⟩ = pure (e.ps.zip us)
theorem chk_body {G : Glb} {cs : Cs} {b : List Stmt} {m : M Fl} {n : Nat} (h : (cB G n cs b).map (·.1) = some m) : ∀ X a Φ k, XOk G cs X a Φ k → SB X a Φ b m := by
  cases e : cB G n cs b with
  | none => rw [e] at h; cases h
  | some z => rw [e] at h; cases h; exact z.2
def nodupB : List Str → Bool
  | [] => true
  | x :: xs => !xs.contains x && nodupB xs
theorem nodupB_ok : ∀ {l : List Str}, nodupB l = true → l.Nodup
  | [], _ => .nil
  | x :: xs, h => by
    unfold nodupB at h
    rw [Bool.and_eq_true] at h
    refine List.nodup_cons.mpr ⟨fun z => ?_, nodupB_ok h.2⟩
    have h1 := h.1
    simp [z] at h1
def kFun : ScopeKind → Bool
  | .function => true
  | _ => false
def kLoc : Option NameKind → Bool
  | some .local => true
  | some .cell => true
  | _ => false
def notFree : NameKind → Bool
  | .free => false
  | _ => true
def scopeB (N ps : List Str) (sc : Scope) : Bool := kFun sc.kind && !sc.isCoroutine && !sc.isGenerator && nodupB N && decide (N.take ps.length = ps) && (ps.all fun x => kLoc (sc.names.lookup x)) && sc.names.all fun y => notFree y.2
theorem scopeB_ok {N ps : List Str} {sc : Scope} (h : scopeB N ps sc = true) : FnScope N ps sc := by
  unfold scopeB at h
  simp only [Bool.and_eq_true, List.all_eq_true, Bool.not_eq_true'] at h
  obtain ⟨⟨⟨⟨⟨⟨h1, h2⟩, h3⟩, h4⟩, h5⟩, h6⟩, h7⟩ := h
  refine ⟨?_, h2, h3, nodupB_ok h4, of_decide_eq_true h5, fun x hx => ?_, fun y hy => ?_⟩
  · cases q : sc.kind <;> first | rfl | (rw [q] at h1; cases h1)
  · have q := h6 x hx
    cases e : sc.names.lookup x with
    | none => rw [e] at q; cases q
    | some z => rw [e] at q; cases z <;> first | exact .inl rfl | exact .inr rfl | cases q
  · have q := h7 y hy
    intro z
    rw [z] at q
    cases q

section
variable {P : Program} {w : World} {K : PySem.W.Frag} {mg : Str → Option Value} {base : Heap} {cls : Cl} {Φ : Phi} {G : Glb}
theorem relStart {e : DE} {wd : W} {hp : List EO} {us : List U} {vs : List V} {H : Hp} {E : XK} (R : Rel (entry K cls wd H E) wd [] hp [] H) (r : RUs K cls wd H us vs) : Rel (entry K cls wd H E) wd (envAt e us) hp (L2.start e.N vs) H := by
  have hl := r.length
  refine { R with len := ?_, slot := fun i s q => ?_, own := fun i s p q ho => ?_, apart := fun i j s t p q1 q2 h1 h2 => ?_ }
  · simp [envAt, L2.start, hl]
  · unfold envAt at q
    unfold L2.start
    by_cases hi : i < us.length
    · rw [List.getElem?_append_left (by simpa using hi), List.getElem?_map] at q
      rw [List.getElem?_append_left (by simpa [← hl] using hi), List.getElem?_map]
      cases e1 : us[i]? with
      | none => rw [e1] at q; cases q
      | some u =>
        rw [e1] at q
        cases q
        obtain ⟨v, h1, h2⟩ := r.get e1
        rw [h1]
        exact ⟨v, rfl, h2⟩
    · rw [List.getElem?_append_right (by simpa using Nat.le_of_not_lt hi)] at q
      have : s = .no := by
        have := List.mem_of_getElem? q
        exact List.eq_of_mem_replicate this
      rw [this]
      trivial
  · have : isOwn s = false := by
      unfold envAt at q
      have := List.mem_of_getElem? q
      rcases List.mem_append.mp this with z | z
      · obtain ⟨u, _, h⟩ := List.mem_map.mp z
        rw [← h]; rfl
      · rw [List.eq_of_mem_replicate z]; rfl
    rw [this] at ho; cases ho
  · have : isOwn s = false := by
      unfold envAt at q1
      have := List.mem_of_getElem? q1
      rcases List.mem_append.mp this with z | z
      · obtain ⟨u, _, h⟩ := List.mem_map.mp z
        rw [← h]; rfl
      · rw [List.eq_of_mem_replicate z]; rfl
    rw [this] at q2; cases q2
theorem body_holds {e : DE} {wd : W} {hp : List EO} {us : List U} {vs : List V} {H : Hp} {E : XK} {Q : VK} (R : Rel (entry K cls wd H E) wd [] hp [] H) (r : RUs K cls wd H us vs)
    (h : match runD e Φ us hp with
      | none => False
      | some (.ok u hp') => Out (entry K cls wd H E) wd [] H ⟨[], hp'⟩ (relU (entry K cls wd H E)) u Q
      | some (.ex c f v hp') => XOut (entry K cls wd H E) wd H ⟨[], hp'⟩ c f v) : TSs (entry K cls wd H E) Φ e.m { nx := fun _ H' => Q .non H', rt := Q } (L2.start e.N vs) H := by
  refine ⟨wd, ⟨envAt e us, hp⟩, relStart R r, ?_⟩
  unfold runD at h
  cases q : e.m Φ ⟨envAt e us, hp⟩ with
  | none => rw [q] at h; exact h
  | some z =>
    rw [q] at h
    cases z with
    | ex c f v s => exact fun w' H' d y σ' st R' ry hd => h w' H' d y [] st R'.drop ry hd
    | ok fl s =>
      cases fl with
      | nx => exact fun w' H' σ' st R' => h w' H' .non st R'.drop .non
      | rt u => exact fun w' H' σ' st R' v ru => h w' H' v st R'.drop ru
      | bk => exact h.elim
      | ct => exact h.elim
/-- the rule for a def, its code object told -/
theorem FunD.okC {x qual : Str} {params : Arguments} {body : List Stmt} {scope : Scope} {p : Str × Option Str} {fd : FuncData} {CX : CXT} {N ps : List Str} {k : Nat} {sp : Sp} (F : FunD K x qual params body scope [] [] (He.fAd K p) fd) (S : FnScope N ps scope) (len : ∀ vs H Q E, sp vs H Q E → vs.length = ps.length)
    (hbody : ∀ (cdv : Value) (A : Around) (outer : List Env) (s : Shared) (H : Hp) (vs : List V) (Q : VK) (E : XK), cdv = .ref (He.codeOf K p) → Room k (A.deeper (envOfC qual scope s.heap.objs.size (He.fAd K p) cdv)) → sp vs H Q E →
      ∃ t, PSs (cxOf CX P w K mg base N qual scope (He.fAd K p) cdv A outer s H E) body t ∧ t { nx := fun _ H' => Q .non H', rt := Q } (L2.start N vs) H) : FnOk P w K mg base CX (k + 1) (He.fAd K p) fd ps sp := by
  obtain ⟨oc, od, dV, kV, doc, pm, an, cdv, ct, osl, rfl, lk, hcd, _, _⟩ := F.ex
  obtain ⟨c, rfl⟩ := He.codeIn_ref hcd
  have hc : He.codeOf K p = c := He.codeOf_eq lk rfl
  exact fn_of lk hcd S len fun A outer s H vs Q E hr hsp => hbody _ A outer s H vs Q E (by rw [hc]) hr hsp
theorem fn_zero {tb : List DE} {f : Addr} {fd : FuncData} {ps : List Str} {q : Str} : FnOk P w K mg base (L2.CX P w) 0 f fd ps (spE K cls (phi tb 0) q ps.length) :=
  ⟨fun vs H Q E h => h.1, fun A outer s H args us vs Q E hr e0 hb r hs => by
    obtain ⟨_, wd, hp, xs, _, _, h⟩ := hs
    exact (show False from h).elim⟩
theorem fn_succ {tb : List DE} {e : DE} {fd : FuncData} {n : Nat} (ok : e.Ok G) (hf : findD tb e.d.qual = some e) (F : FunD K e.d.name e.d.qual e.d.params e.d.body e.d.scope [] [] (He.fAd K e.d.at_) fd) (g : GOk G P w K mg base cls (phi tb n) n) (tab : e.gen = true → GxR.TabB base mg (He.cT K e.d.at_).1 (He.cT K e.d.at_).2 ∧ (He.cT K e.d.at_).2 ∈ cls.T) :
    FnOk P w K mg base (L2.CX P w) (2 * n + 1 + 1) (He.fAd K e.d.at_) fd e.ps (spE K cls (phi tb (n + 1)) e.d.qual e.ps.length) := by
  refine FunD.okC F ok.S (fun vs H Q E h => h.1) fun cdv A outer s H vs Q E hcd hr h => ?_
  obtain ⟨hl, wd, hp, us, ru, R, h⟩ := h
  refine ⟨TSs (entry K cls wd H E) (phi tb n) e.m, ok.body _ (entry K cls wd H E) (phi tb n) n ⟨rfl, rfl, ok.S.nd, rfl, ok.S.kind, fun x kd hx hk => ?_, fun x kd hx hk => ?_, fun x hx => hx, fun x hx => hx, fun x kd hx hk => ?_, hr, takes_of rfl rfl rfl rfl, g, fun _ => passes_of rfl, fun hg => ?_⟩, body_holds R ru ?_⟩
  · rcases hk with rfl | rfl | rfl
    · exact .inl hx
    · exact .inr (.inl hx)
    · exact .inr (.inr hx)
  · rcases hk with rfl | rfl
    · exact ⟨.inl hx, .inl rfl⟩
    · exact ⟨.inr hx, .inl rfl⟩
  · rcases hk with rfl | rfl
    · exact .inl hx
    · exact .inr hx
  · obtain ⟨h2, h3⟩ := tab hg
    exact ⟨_, _, hcd, h2, h3⟩
  · have hu : us.length = e.ps.length := ru.length.trans hl
    simp only [callM, phi, hf, hu, if_true] at h
    cases q : runD e (phi tb n) us hp with
    | none => rw [q] at h; exact h
    | some z => rw [q] at h; cases z <;> exact h

/-- the text, by its table -/
structure TxtOk (G : Glb) (tb : List DE) (fa : List He.Fa) : Prop where
  each : ∀ e ∈ tb, e.Ok G
  funs : ∀ x q np, G.funs.lookup x = some (q, np) → ∃ e ∈ tb, e.d.at_ = (x, none) ∧ e.d.qual = q ∧ e.ps.length = np ∧ He.Fa.glo x ∈ fa
  find : ∀ e ∈ tb, findD tb e.d.qual = some e
  consts : ∀ x i, G.consts.lookup x = some i → He.Fa.int x i ∈ fa
  free : ∀ x, G.free.contains x = true → He.Fa.free x ∈ fa
  meths : ∀ c m q np, G.meths.lookup (c, m) = some (q, np) → ∃ e ∈ tb, e.d.at_ = (c, some m) ∧ e.d.qual = q ∧ e.ps.length = np ∧ He.Fa.meth c m ∈ fa ∧ He.Fa.cls c ∈ fa
  mks : ∀ c q np fr, G.mks.lookup c = some (q, np, fr) → ∃ e ∈ tb, e.d.at_ = (c, some ("__init__" : Str)) ∧ e.d.qual = q ∧ e.ps.length = np ∧ He.Fa.mkr c ∈ fa ∧ He.Fa.cls c ∈ fa ∧ He.Fa.glo c ∈ fa
  flds : ∀ c f, G.flds.contains (c, f) = true → He.Fa.noat c f ∈ fa
  win : G.win = true → ∃ e ∈ tb, e.d.at_ = (("within" : Str), none) ∧ He.Fa.glo "within" ∈ fa ∧ ∃ a b, e.ps = [a, b] ∧ e.N = [a, b] ∧ winBody e.d.body = some (a, b) ∧ e.d.scope.names.lookup a = some .local ∧ e.d.scope.names.lookup b = some .local ∧ (a == ("__debug__" : Str)) = false ∧ (b == ("__debug__" : Str)) = false
theorem fact' {fa : List He.Fa} {fn : List He.DefD} (c : He.SaysD fa fn K) {f : He.Fa} (h : f ∈ fa) : f.ok K = true := by
  obtain ⟨i, hi⟩ := List.mem_iff_getElem?.mp h
  exact c.fact i hi
theorem def' {tb : List DE} {fa : List He.Fa} (c : He.SaysD fa (tb.map (·.d)) K) {e : DE} (h : e ∈ tb) (ok : e.Ok G) : ∃ fd, FunD K e.d.name e.d.qual e.d.params e.d.body e.d.scope [] [] (He.fAd K e.d.at_) fd := by
  obtain ⟨i, hi⟩ := List.mem_iff_getElem?.mp h
  obtain ⟨fd, F⟩ := c.def_ i (d := e.d) (by rw [List.getElem?_map, hi]; rfl)
  have h1 : e.d.dvs K = [] := by unfold He.DefD.dvs; rw [ok.dfl]; rfl
  have h2 : e.d.kws K = [] := by unfold He.DefD.kws; rw [ok.kwd]; rfl
  rw [h1, h2] at F
  exact ⟨fd, F⟩
theorem all_step {T : List Addr} {tb : List DE} {fa : List He.Fa} {h : Heap} {n : Nat} (t : TxtOk G tb fa) (X : K.In h) (Gn : h.Ns mainGlobals mg) (c : He.SaysD fa (tb.map (·.d)) K)
    (hF : ∀ e ∈ tb, e.Ok G → ∀ fd : FuncData, FunD K e.d.name e.d.qual e.d.params e.d.body e.d.scope [] [] (He.fAd K e.d.at_) fd → FnOk P w K mg base (L2.CX P w) (2 * n) (He.fAd K e.d.at_) fd e.ps (spE K ⟨He.ga K, T⟩ (phi tb n) e.d.qual e.ps.length)) : GOk G P w K mg base ⟨He.ga K, T⟩ (phi tb n) n := by
  refine ⟨fun x q np hx => ?_, fun x i hx => ?_, fun x hx => ?_, fun x m q np hx => ?_, fun x q np fr hx => ?_, fun x f hx => ?_, fun hw => ?_⟩
  · obtain ⟨e, he, ha, rfl, rfl, hg⟩ := t.funs x q np hx
    have ok := t.each e he
    obtain ⟨fd, F⟩ := def' c he ok
    have hm := He.glo_ok X Gn (fact' c hg)
    have q := hF e he ok fd F
    have hfa : He.fAd K e.d.at_ = He.ga K x := by rw [ha]; rfl
    rw [hfa] at F q
    exact ⟨He.ga K x, fd, e.ps, hm, F.kp, F.bindsN ok.bind, q⟩
  · obtain ⟨u, hu⟩ := He.int_ok X Gn (fact' c (t.consts x i hx))
    exact ⟨_, hu, ⟨u, rfl⟩⟩
  · exact He.free_ok X Gn (fact' c (t.free x hx))
  · obtain ⟨e, he, ha, rfl, rfl, h1, h2⟩ := t.meths x m q np hx
    have ok := t.each e he
    obtain ⟨fd, F⟩ := def' c he ok
    have q := hF e he ok fd F
    have hfa : He.fAd K e.d.at_ = He.ma K (He.ga K x) m := by rw [ha]; rfl
    rw [hfa] at F q
    exact ⟨He.cls_ok (fact' c h2), _, fd, e.ps, He.meth_ok (fact' c h1), F.bindsN ok.bind, q⟩
  · obtain ⟨e, he, ha, rfl, rfl, h1, h2, h3⟩ := t.mks x q np fr hx
    have ok := t.each e he
    obtain ⟨fd, F⟩ := def' c he ok
    have q := hF e he ok fd F
    have hfa : He.fAd K e.d.at_ = He.ma K (He.ga K x) "__init__" := by rw [ha]; rfl
    rw [hfa] at F q
    exact ⟨He.glo_ok X Gn (fact' c h3), He.cls_ok (fact' c h2), _, fd, e.ps, He.mkr_ok (fact' c h1), F.bindsN ok.bind, q⟩
  · exact He.noat_ok (fact' c (t.flds x f hx))
  · obtain ⟨e, he, ha, hg, a, b, e1, e2, e3, e4, e5, e6, e7⟩ := t.win hw
    have ok := t.each e he
    obtain ⟨fd, F⟩ := def' c he ok
    have hm := He.glo_ok X Gn (fact' c hg)
    have hfa : He.fAd K e.d.at_ = He.ga K "within" := by rw [ha]; rfl
    rw [hfa] at F
    have S := ok.S
    rw [e1, e2] at S
    have bd := F.bindsN ok.bind
    rw [e1] at bd
    exact ⟨He.ga K "within", e.d, fd, a, b, hm, F, S, e3, e4, e5, e6, e7, bd⟩
/-- each def with a generator has its table -/
def TabsIn (tb : List DE) (K : PySem.W.Frag) (base : Heap) (mg : Str → Option Value) (T : List Addr) : Prop := ∀ e ∈ tb, e.gen = true → GxR.TabB base mg (He.cT K e.d.at_).1 (He.cT K e.d.at_).2 ∧ (He.cT K e.d.at_).2 ∈ T
/-- the defs that have tables -/
def tabDs (tb : List DE) : List He.Defn := (tb.filter fun e => e.gen).map fun e => e.d.at_
def tabCs (tb : List DE) (K : PySem.W.Frag) : List (Addr × Addr) := (tabDs tb).map (He.cT K)
theorem tabsIn_of {tb : List DE} {base : Heap} (h : ∀ p ∈ tabCs tb K, GxR.TabB base mg p.1 p.2) : TabsIn tb K base mg ((tabCs tb K).map (·.2)) := fun e he hg => by
  have hm : He.cT K e.d.at_ ∈ tabCs tb K := List.mem_map.mpr ⟨_, List.mem_map.mpr ⟨e, List.mem_filter.mpr ⟨he, hg⟩, rfl⟩, rfl⟩
  exact ⟨h _ hm, List.mem_map.mpr ⟨_, hm, rfl⟩⟩
theorem all_ok {T : List Addr} {tb : List DE} {fa : List He.Fa} {h : Heap} (t : TxtOk G tb fa) (X : K.In h) (Gn : h.Ns mainGlobals mg) (c : He.SaysD fa (tb.map (·.d)) K) (ht : TabsIn tb K base mg T) : ∀ n, GOk G P w K mg base ⟨He.ga K, T⟩ (phi tb n) n := by
    intro n
    induction n with
    | zero => exact all_step t X Gn c fun e _ _ _ _ => fn_zero
    | succ n ih => exact all_step t X Gn c fun e he ok fd F => fn_succ ok (t.find e he) F ih (ht e he)
end

/-! ### the law -/
theorem walk_E {l : PySem.W.OpenLaw} {n k : Nat} {q : Program} {loose : List Str} {XP : (Str → Option Value) → Heap → Prop} {YP : World → Heap → Prop} {d : DefRec} {CX : World → CXT} {x : Str}
    (hn : l.most = some n) (hn2 : n ≤ sizeLine) (hdf : d.params.defaults = []) (hr : Room k callerA)
    (F : ∀ (w : World) (mg : Str → Option Value) (fa : Addr) (h : Heap), YP w h → h.Ns mainGlobals mg → mg d.name = some (.ref fa) →
      ∃ (K : PySem.W.Frag) (fd : FuncData) (cs : List (Addr × Addr)) (sp : Sp), K.In h ∧ (∀ p ∈ cs, h.get? p.2 = some { cls := .none, data := .fields #[] }) ∧ (∀ p ∈ cs, K.lookup p.2 = none) ∧ (∀ p ∈ cs, PySem.W.CodeHd h p.1 p.2) ∧ (∀ (s : Shared) (u : Value), BindsTo s fd ⟨[u], []⟩ [(x, u)]) ∧
        (∀ (H : Hp) (a : Addr) (ns : List Int), ns.length ≤ n → (∀ p ∈ cs, H p.2 = some (.tbl #[])) → SqL K H a (ns.map V.int) → sp [.ref a] H (fun v _ => v = .bl true) fun _ _ _ => False) ∧
        ∀ base : Heap, K.In base → base.Ns mainGlobals mg → (∀ p ∈ cs, GxR.TabB base mg p.1 p.2) → FnOk l.prog w K mg base (CX w) k fa fd [x] sp)
    (hCX : ∀ (w : World) (H : Hp) (s : Shared) (e : Value) (s' : Shared), CX w [] H s (fun _ _ _ => False) e s' → False) :
    PySem.W.WalkO q loose XP YP l.row.toRowW d [] (fun f vs => PySem.call f vs) := by
  refine Att.attach_callB hn hdf fun w s₀ s₁ mg mb fa o pm cd doc a vs ns G Y ho hd hcd hmg hobj hints hlen hbits hg => ?_
  obtain ⟨K, fd, cs, sp, KX, hT, nT, C, hb, hsp, hF⟩ := F w mg fa _ Y G.T.g hmg
  exact LamX.law_callTs KX G.T.g G.T.b G.T.builtins G.T.nolimit hg hT nT C G.T.bmain hobj hints (Nat.le_trans hlen hn2) hr (fun base h1 h2 h3 => hF base h1 h2 fun p hp => ⟨(h3 p hp).code, (h3 p hp).bm, (h3 p hp).gP⟩) hb (fun H hH hS => hsp H a ns hlen hH hS) fun H e s' => hCX w H s₁ e s'
theorem cx_no {P : Program} {w : World} {H : Hp} {s : Shared} {e : Value} {s' : Shared} (h : L2.CX P w [] H s (fun _ _ _ => False) e s') : False := by
  obtain ⟨_, _, _, _, _, _, _, _, _, _, _, _, z⟩ := h
  exact z
/-- the law's promise from its E run -/
theorem sp_law {K : PySem.W.Frag} {cls : Cl} {Φ : Phi} {H : Hp} {a : Addr} {ns : List Int} {hp' : List EO} {q : Str} (hT : ∀ p ∈ cls.T, H p = some (.tbl #[])) (hS : SqL K H a (ns.map V.int)) (h : Φ q [.scr ns] [] = some (.ok (.bl true) hp')) : spE K cls Φ q 1 [.ref a] H (fun v _ => v = .bl true) fun _ _ _ => False := by
  have hw : ∃ wd : W, RU K cls wd H (.scr ns) (.ref a) ∧ wd.ρ = [] ∧ ∀ x, wd.F x → H x ≠ none ∧ x ∉ cls.T := by
    rcases hS with hS | hS
    · refine ⟨⟨fun x => x = a, []⟩, .scr rfl hS, rfl, fun x hx => ?_⟩
      have hx : x = a := hx
      rw [hx]
      refine ⟨?_, fun y => ?_⟩
      · rcases hS with z | ⟨o, z⟩ <;> (rw [z]; exact fun z => nomatch z)
      · have q := hT a y
        rcases hS with z | ⟨o, z⟩ <;> (rw [z] at q; cases q)
    · exact ⟨⟨fun _ => False, []⟩, .scrK fun _ => .inr hS, rfl, fun x hx => hx.elim⟩
  obtain ⟨wd, r, hρ, hF⟩ := hw
  obtain ⟨F, ρ⟩ := wd
  cases hρ
  refine ⟨rfl, ⟨F, []⟩, [], [.scr ns], .cons r .nil, ?_, ?_⟩
  · exact { len := rfl, slot := fun i s e => by simp at e, own := fun i s p e => by simp at e, apart := fun i j s t p e => by simp at e, clen := rfl, cnd := List.nodup_nil, cell := fun i o p e => by simp at e, cellF := fun i o p e => by simp at e, cell0 := fun p hp => by simp at hp, pre := fun i p e => e, frame := fun x o hx _ _ => hx, frz := fun x hx => (hF x hx).1, F0 := fun x hx => .inl hx, Fpre := fun x hx => hx, tab := fun x hx => ⟨#[], hT x hx, trivial⟩, tabF := fun x hx y => (hF x y).2 hx }
  · simp only [callM, h]
    intro w' H' y st R r
    cases r
    rfl
theorem law_facts {T : List Addr} {G : Glb} {tb : List DE} {fa : List He.Fa} {P : Program} {w : World} {K : PySem.W.Frag} {h : Heap} {mg : Str → Option Value} {f : Addr} {x : Str} {e : DE} (t : TxtOk G tb fa) (X : K.In h) (Gn : h.Ns mainGlobals mg) (c : He.SaysD fa (tb.map (·.d)) K)
    (he : e ∈ tb) (ha : e.d.at_ = (x, none)) (hg : He.Fa.glo x ∈ fa) (hfa : mg x = some (.ref f)) (hps : e.ps = [("script" : Str)]) (k : Nat) : ∃ fd : FuncData, (∀ (s : Shared) (v : Value), BindsTo s fd ⟨[v], []⟩ [("script", v)]) ∧
      ∀ base : Heap, K.In base → base.Ns mainGlobals mg → TabsIn tb K base mg T → FnOk P w K mg base (L2.CX P w) (2 * k + 1 + 1) f fd ["script"] (spE K ⟨He.ga K, T⟩ (phi tb (k + 1)) e.d.qual 1) := by
  have ok := t.each e he
  obtain ⟨fd, F⟩ := def' c he ok
  have hm := hfa.symm.trans (He.glo_ok X Gn (fact' c hg))
  have hfa' : He.fAd K e.d.at_ = He.ga K x := by rw [ha]; rfl
  cases hm
  have b := FunD.bindsA (ps := e.ps) F ok.bind
  refine ⟨fd, fun s v => ?_, fun base _ hb ht => ?_⟩
  · have q := b s [v] (by rw [hps]; rfl)
    rw [hps] at q
    exact q
  · have q := fn_succ (P := P) (w := w) (base := base) (cls := ⟨He.ga K, T⟩) ok (t.find e he) F (all_ok (P := P) (w := w) (base := base) t X Gn c ht k) (ht e he)
    rw [hps, hfa'] at q
    exact q
/-- the end of a law's row, the tables told by the head -/
theorem walk_X {l : PySem.W.OpenLaw} {n k m : Nat} {q : Program} {loose : List Str} {XP : (Str → Option Value) → Heap → Prop} {d : DefRec} {G : Glb} {tb : List DE} {fa : List He.Fa} {e : DE} {ex : PySem.W.Frag → Bool}
    (hn : l.most = some n) (hn2 : n ≤ sizeLine) (hdf : d.params.defaults = []) (hr : Room (2 * k + 1 + 1) callerA) (hd : d.name = ("law" : Str)) (t : TxtOk G tb fa) (he : e ∈ tb) (ha : e.d.at_ = (("law" : Str), none)) (hq : e.d.qual = ("law" : Str)) (hg : He.Fa.glo "law" ∈ fa) (hps : e.ps = [("script" : Str)])
    (run : ∀ ns : List Int, ns.length ≤ n → ∃ hp, phi tb (k + 1) "law" [.scr ns] [] = some (.ok (.bl true) hp)) :
    PySem.W.WalkO q loose XP (He.hookX m fa (tb.map (·.d)) [] (tabDs tb) ex).says l.row.toRowW d [] (fun f vs => PySem.call f vs) := by
  refine walk_E (k := 2 * k + 1 + 1) (x := "script") (CX := fun w => L2.CX l.prog w) hn hn2 hdf hr ?_ fun w H s e s' => cx_no
  intro w mg f h Y Gn hmg
  obtain ⟨K, KX, c⟩ := Y
  rw [hd] at hmg
  obtain ⟨fd, hb, hF⟩ := law_facts (P := l.prog) (w := w) (T := (tabCs tb K).map (·.2)) t KX Gn (He.SaysT.d c.t) he ha hg hmg hps k
  refine ⟨K, fd, tabCs tb K, _, KX, fun p hp => ?_, fun p hp => ?_, fun p hp => ?_, hb, fun H a ns hl hH hS => ?_, fun base h1 h2 h3 => hF base h1 h2 (tabsIn_of h3)⟩
  · obtain ⟨p, hp', rfl⟩ := List.mem_map.mp hp
    exact c.empty p hp'
  · obtain ⟨p, hp', rfl⟩ := List.mem_map.mp hp
    exact c.out p hp'
  · obtain ⟨p, hp', rfl⟩ := List.mem_map.mp hp
    exact PySem.W.codeHd_of_K KX (c.hd p hp')
  · obtain ⟨hp, z⟩ := run ns hl
    rw [hq]
    exact sp_law (fun p hp => by
      obtain ⟨p, hp', rfl⟩ := List.mem_map.mp hp
      exact hH p hp') hS z
end EL
namespace EL
open PySem PySem.Spec PyProof.Rows L2
/-! ### the table's checks -/
def funsB (G : Glb) (tb : List DE) (fa : List He.Fa) : Bool := G.funs.all fun z => match tb.find? (fun e => decide (e.d.at_ = (z.1, none))) with
  | some e => decide (e.d.qual = z.2.1) && decide (e.ps.length = z.2.2) && fa.any fun f => match f with
    | .glo x => decide (x = z.1)
    | _ => false
  | none => false
def findB (tb : List DE) : Bool := nodupB (tb.map fun e => e.d.qual)
def constB (G : Glb) (fa : List He.Fa) : Bool := G.consts.all fun z => fa.any fun f => match f with
  | .int x i => decide (x = z.1) && decide (i = z.2)
  | _ => false
def freeFB (G : Glb) (fa : List He.Fa) : Bool := G.free.all fun z => fa.any fun f => match f with
  | .free x => decide (x = z)
  | _ => false
theorem findD_ok : ∀ {tb : List DE}, (tb.map fun e => e.d.qual).Nodup → ∀ e ∈ tb, findD tb e.d.qual = some e
  | [], _, e, h => by cases h
  | x :: xs, nd, e, h => by
    rw [List.map_cons, List.nodup_cons] at nd
    unfold findD
    rw [List.find?_cons]
    rcases List.mem_cons.mp h with rfl | h
    · simp
    · have ne : x.d.qual ≠ e.d.qual := fun z => nd.1 (by rw [z]; exact List.mem_map.mpr ⟨e, h, rfl⟩)
      simp only [ne, decide_false]
      exact findD_ok nd.2 e h
def faHas (fa : List He.Fa) (g : He.Fa → Bool) : Bool := fa.any g
def isGlo (x : Str) : He.Fa → Bool
  | .glo y => decide (y = x)
  | _ => false
def isClsF (x : Str) : He.Fa → Bool
  | .cls y => decide (y = x)
  | _ => false
def isMkr (x : Str) : He.Fa → Bool
  | .mkr y => decide (y = x)
  | _ => false
def isMethF (x m : Str) : He.Fa → Bool
  | .meth y k => decide (y = x) && decide (k = m)
  | _ => false
def isNoat (x m : Str) : He.Fa → Bool
  | .noat y k => decide (y = x) && decide (k = m)
  | _ => false
theorem faHas_ok {fa : List He.Fa} {g : He.Fa → Bool} {f : He.Fa} (h : faHas fa g = true) (hg : ∀ z, g z = true → z = f) : f ∈ fa := by
  unfold faHas at h
  rw [List.any_eq_true] at h
  obtain ⟨z, h1, h2⟩ := h
  rw [← hg z h2]; exact h1
def methsB (G : Glb) (tb : List DE) (fa : List He.Fa) : Bool := G.meths.all fun z => (match tb.find? (fun e => decide (e.d.at_ = (z.1.1, some z.1.2))) with
  | some e => decide (e.d.qual = z.2.1) && decide (e.ps.length = z.2.2)
  | none => false) && faHas fa (isMethF z.1.1 z.1.2) && faHas fa (isClsF z.1.1)
def mksB (G : Glb) (tb : List DE) (fa : List He.Fa) : Bool := G.mks.all fun z => (match tb.find? (fun e => decide (e.d.at_ = (z.1, some ("__init__" : Str)))) with
  | some e => decide (e.d.qual = z.2.1) && decide (e.ps.length = z.2.2.1)
  | none => false) && faHas fa (isMkr z.1) && faHas fa (isClsF z.1) && faHas fa (isGlo z.1)
def fldsB (G : Glb) (fa : List He.Fa) : Bool := G.flds.all fun z => faHas fa (isNoat z.1 z.2)
def clsB (G : Glb) (tb : List DE) (fa : List He.Fa) : Bool := methsB G tb fa && mksB G tb fa && fldsB G fa
theorem isGlo_ok {x : Str} : ∀ z, isGlo x z = true → z = .glo x := by
  intro z h
  cases z <;> first | cases h | (rw [of_decide_eq_true (show decide _ = true from h)])
theorem isCls_ok {x : Str} : ∀ z, isClsF x z = true → z = .cls x := by
  intro z h
  cases z <;> first | cases h | (rw [of_decide_eq_true (show decide _ = true from h)])
theorem isMkr_ok {x : Str} : ∀ z, isMkr x z = true → z = .mkr x := by
  intro z h
  cases z <;> first | cases h | (rw [of_decide_eq_true (show decide _ = true from h)])
theorem isMeth_ok {x m : Str} : ∀ z, isMethF x m z = true → z = .meth x m := by
  intro z h
  cases z <;> first | cases h | (unfold isMethF at h; rw [Bool.and_eq_true, decide_eq_true_eq, decide_eq_true_eq] at h; rw [h.1, h.2])
theorem isNoat_ok {x m : Str} : ∀ z, isNoat x m z = true → z = .noat x m := by
  intro z h
  cases z <;> first | cases h | (unfold isNoat at h; rw [Bool.and_eq_true, decide_eq_true_eq, decide_eq_true_eq] at h; rw [h.1, h.2])
theorem lookup_mem2 {α β : Type} [BEq α] [LawfulBEq α] {x : α} {y : β} : ∀ {l : List (α × β)}, l.lookup x = some y → (x, y) ∈ l
  | [], h => by cases h
  | (k, v) :: l, h => by
    rw [List.lookup_cons] at h
    cases q : x == k with
    | true => rw [q] at h; cases h; rw [eq_of_beq q]; exact List.mem_cons_self ..
    | false => rw [q] at h; exact List.mem_cons_of_mem _ (lookup_mem2 h)
def winDB (G : Glb) (e : DE) : Bool := match e.ps, winBody e.d.body with
  | [a, b], some (a', b') => decide (e.d.at_ = (("within" : Str), none)) && (decide (a' = a) && (decide (b' = b) && (decide (e.N = [a, b]) && (decide (e.d.scope.names.lookup a = some .local) && (decide (e.d.scope.names.lookup b = some .local) && (!(a == ("__debug__" : Str)) && !(b == ("__debug__" : Str))))))))
  | _, _ => false
def winTB (G : Glb) (tb : List DE) (fa : List He.Fa) : Bool := !G.win || (faHas fa (isGlo "within") && tb.any (winDB G))
theorem winDB_ok {G : Glb} {e : DE} (h : winDB G e = true) : e.d.at_ = (("within" : Str), none) ∧ ∃ a b, e.ps = [a, b] ∧ e.N = [a, b] ∧ winBody e.d.body = some (a, b) ∧ e.d.scope.names.lookup a = some .local ∧ e.d.scope.names.lookup b = some .local ∧ (a == ("__debug__" : Str)) = false ∧ (b == ("__debug__" : Str)) = false := by
  unfold winDB at h
  split at h
  · rename_i a b a' b' e1 e2
    simp only [Bool.and_eq_true, decide_eq_true_eq, Bool.not_eq_true'] at h
    obtain ⟨h1, rfl, rfl, h4, h5, h6, h7, h8⟩ := h
    exact ⟨h1, _, _, e1, h4, e2, h5, h6, h7, h8⟩
  · cases h
theorem txt_by {G : Glb} {tb : List DE} {fa : List He.Fa} (h0 : winTB G tb fa = true) (h1 : funsB G tb fa = true) (h2 : findB tb = true) (h3 : constB G fa = true) (h4 : freeFB G fa = true) (h5 : clsB G tb fa = true) (h : ∀ e ∈ tb, e.Ok G) : TxtOk G tb fa := by
  unfold clsB at h5
  rw [Bool.and_eq_true, Bool.and_eq_true] at h5
  obtain ⟨⟨h5, h6⟩, h7⟩ := h5
  refine ⟨h, fun x q np hx => ?_, findD_ok (nodupB_ok h2), fun x i hx => ?_, fun x hx => ?_, fun c m q np hx => ?_, fun c q np fr hx => ?_, fun c f hx => ?_, fun hw => ?_⟩
  · have hm := PySem.mem_of_lookup hx
    have z := List.all_eq_true.mp h1 _ hm
    cases e1 : tb.find? (fun e => decide (e.d.at_ = ((x, (q, np)).1, none))) with
    | none => rw [e1] at z; cases z
    | some e =>
      rw [e1] at z
      simp only [Bool.and_eq_true, decide_eq_true_eq, List.any_eq_true] at z
      obtain ⟨⟨z1, z2⟩, f, hf, z3⟩ := z
      have ha := List.find?_some e1
      refine ⟨e, List.mem_of_find?_eq_some e1, by simpa using ha, z1, z2, ?_⟩
      cases f <;> first | cases z3 | skip
      rename_i y
      have : y = x := of_decide_eq_true z3
      rw [← this]; exact hf
  · have hm := PySem.mem_of_lookup hx
    have z := List.all_eq_true.mp h3 _ hm
    rw [List.any_eq_true] at z
    obtain ⟨f, hf, z⟩ := z
    cases f <;> first | cases z | skip
    rw [Bool.and_eq_true, decide_eq_true_eq, decide_eq_true_eq] at z
    obtain ⟨rfl, rfl⟩ := z
    exact hf
  · have hm : x ∈ G.free := by simpa using hx
    have z := List.all_eq_true.mp h4 _ hm
    rw [List.any_eq_true] at z
    obtain ⟨f, hf, z⟩ := z
    cases f <;> first | cases z | skip
    rename_i y
    have : y = x := of_decide_eq_true z
    rw [← this]; exact hf
  · have hm := lookup_mem2 hx
    have z := List.all_eq_true.mp h5 _ hm
    rw [Bool.and_eq_true, Bool.and_eq_true] at z
    obtain ⟨⟨z1, z2⟩, z3⟩ := z
    cases e1 : tb.find? (fun e => decide (e.d.at_ = (((c, m), (q, np)).1.1, some ((c, m), (q, np)).1.2))) with
    | none => rw [e1] at z1; cases z1
    | some e =>
      rw [e1] at z1
      simp only [Bool.and_eq_true, decide_eq_true_eq] at z1
      have ha := List.find?_some e1
      exact ⟨e, List.mem_of_find?_eq_some e1, by simpa using ha, z1.1, z1.2, faHas_ok z2 isMeth_ok, faHas_ok z3 isCls_ok⟩
  · have hm := lookup_mem2 hx
    have z := List.all_eq_true.mp h6 _ hm
    rw [Bool.and_eq_true, Bool.and_eq_true, Bool.and_eq_true] at z
    obtain ⟨⟨⟨z1, z2⟩, z3⟩, z4⟩ := z
    cases e1 : tb.find? (fun e => decide (e.d.at_ = ((c, (q, np, fr)).1, some ("__init__" : Str)))) with
    | none => rw [e1] at z1; cases z1
    | some e =>
      rw [e1] at z1
      simp only [Bool.and_eq_true, decide_eq_true_eq] at z1
      have ha := List.find?_some e1
      exact ⟨e, List.mem_of_find?_eq_some e1, by simpa using ha, z1.1, z1.2, faHas_ok z2 isMkr_ok, faHas_ok z3 isCls_ok, faHas_ok z4 isGlo_ok⟩
  · have hm : (c, f) ∈ G.flds := by simpa using hx
    exact faHas_ok (List.all_eq_true.mp h7 _ hm) isNoat_ok
  · unfold winTB at h0
    rw [hw] at h0
    obtain ⟨z1, z2⟩ := Bool.and_eq_true_iff.mp (show (faHas fa (isGlo "within") && tb.any (winDB G)) = true from h0)
    obtain ⟨e, he, z⟩ := List.any_eq_true.mp z2
    obtain ⟨z3, z4⟩ := winDB_ok z
    exact ⟨e, he, z3, faHas_ok z1 isGlo_ok, z4⟩
end EL
set_option Elab.async false
set_option linter.all false
set_option maxRecDepth 100000
/-! EM1: what an E program does, by its words. -/
namespace EL
open PySem (Str PyData)

/-- m ends well and Q stands, or it raises and E stands -/
def wp0 {α : Type} (m : M α) (Φ : Phi) (s : S) (Q : α → S → Prop) (E : Str → Str → U → List EO → Prop) : Prop := match m Φ s with
  | none => False
  | some (.ok x s') => Q x s'
  | some (.ex c f v s') => E c f v s'.hp
/-- the same of a call -/
def wq0 (Φ : Phi) (q : Str) (us : List U) (hp : List EO) (Q : U → List EO → Prop) (E : Str → Str → U → List EO → Prop) : Prop := match Φ q us hp with
  | none => False
  | some (.ok u hp') => Q u hp'
  | some (.ex c f v hp') => E c f v hp'

inductive wp {α : Type} (m : M α) (Φ : Phi) (s : S) (Q : α → S → Prop) (E : Str → Str → U → List EO → Prop) : Prop
  | mk : wp0 m Φ s Q E → wp m Φ s Q E
inductive wq (Φ : Phi) (q : Str) (us : List U) (hp : List EO) (Q : U → List EO → Prop) (E : Str → Str → U → List EO → Prop) : Prop
  | mk : wq0 Φ q us hp Q E → wq Φ q us hp Q E
theorem wp_def {α : Type} {m : M α} {Φ : Phi} {s : S} {Q : α → S → Prop} {E : Str → Str → U → List EO → Prop} : wp m Φ s Q E ↔ wp0 m Φ s Q E := ⟨fun ⟨h⟩ => h, .mk⟩
theorem wq_def {Φ : Phi} {q : Str} {us : List U} {hp : List EO} {Q : U → List EO → Prop} {E : Str → Str → U → List EO → Prop} : wq Φ q us hp Q E ↔ wq0 Φ q us hp Q E := ⟨fun ⟨h⟩ => h, .mk⟩
inductive oB {α : Type} (o : Option α) (k : α → Prop) : Prop
  | mk (x : α) : o = some x → k x → oB o k
@[simp] theorem oB_none {α : Type} {k : α → Prop} : oB none k ↔ False := ⟨fun ⟨x, h, _⟩ => (nomatch h), fun h => False.elim h⟩
@[simp] theorem oB_some {α : Type} {x : α} {k : α → Prop} : oB (some x) k ↔ k x := ⟨fun ⟨y, h, q⟩ => by cases h; exact q, fun q => ⟨x, rfl, q⟩⟩
@[simp] theorem oB_map {α β : Type} {f : α → β} {o : Option α} {k : β → Prop} : oB (o.map f) k ↔ oB o fun x => k (f x) := by cases o <;> simp
theorem oB_match {α : Type} {o : Option α} {k : α → Prop} : oB o k ↔ (match o with
  | none => False
  | some x => k x) := by cases o <;> simp
section
variable {α β : Type} {Φ : Phi} {s : S} {Q : α → S → Prop} {E : Str → Str → U → List EO → Prop}
theorem wp_imp {Q' : α → S → Prop} {m : M α} (h : wp m Φ s Q E) (i : ∀ x s', Q x s' → Q' x s') : wp m Φ s Q' E := by
  rw [wp_def] at h ⊢; unfold wp0 at h ⊢
  cases e : m Φ s with
  | none => rw [e] at h; exact h
  | some r => rw [e] at h; cases r with
    | ok x s' => exact i _ _ h
    | ex c f v s' => exact h
theorem wq_imp {Q Q' : U → List EO → Prop} {q : Str} {us : List U} {hp : List EO} (h : wq Φ q us hp Q E) (i : ∀ x s', Q x s' → Q' x s') : wq Φ q us hp Q' E := by
  rw [wq_def] at h ⊢; unfold wq0 at h ⊢
  cases e : Φ q us hp with
  | none => rw [e] at h; exact h
  | some r => rw [e] at h; cases r with
    | ok x s' => exact i _ _ h
    | ex c f v s' => exact h
@[simp ↓] theorem wp_bnd {Q : β → S → Prop} {m : M α} {f : α → M β} : wp (bnd m f) Φ s Q E ↔ wp m Φ s (fun x s' => wp (f x) Φ s' Q E) E := by
  simp only [wp_def]; unfold wp0 bnd
  cases e : m Φ s with
  | none => exact Iff.rfl
  | some r => cases r <;> exact Iff.rfl
@[simp ↓] theorem wp_ret {x : α} : wp (ret x) Φ s Q E ↔ Q x s := wp_def.trans Iff.rfl
@[simp ↓] theorem wp_fail : wp (fail : M α) Φ s Q E ↔ False := wp_def.trans Iff.rfl
@[simp ↓] theorem wp_ofO {o : Option α} : wp (ofO o) Φ s Q E ↔ (oB (o) fun x => Q x s) := by rw [wp_def, oB_match]; cases o <;> exact Iff.rfl
@[simp ↓] theorem wp_look {g : S → Option α} : wp (look' g) Φ s Q E ↔ (oB (g s) fun x => Q x s) := by
  rw [wp_def, oB_match]; unfold wp0 look'
  cases g s <;> exact Iff.rfl
@[simp ↓] theorem wp_act {g : S → Option (α × S)} : wp (act g) Φ s Q E ↔ (oB (g s) fun x => Q x.1 x.2) := by
  simp only [wp_def, oB_match]; unfold wp0 act
  cases e : g s with
  | none => exact Iff.rfl
  | some x => exact Iff.rfl
@[simp ↓] theorem wp_chk {Q : β → S → Prop} {g : S → Option α} {k : M β} : wp (chk g k) Φ s Q E ↔ (oB (g s) fun _ => wp k Φ s Q E) := by
  simp only [wp_def, oB_match]; unfold wp0 chk
  cases e : g s with
  | none => exact Iff.rfl
  | some x => exact Iff.rfl
end
section
variable {α β : Type} {Φ : Phi} {s : S} {env : List SV} {hp : List EO} {E : Str → Str → U → List EO → Prop}
@[simp ↓] theorem wp_mSlot {i : Nat} {Q : Hd → S → Prop} : wp (mSlot i) Φ ⟨env, hp⟩ Q E ↔ (match env[i]? with
    | some (.val u) => Q (.u u) ⟨env, hp⟩
    | some (.ol _) => Q (.sl i) ⟨env, hp⟩
    | some (.od _ _) => Q (.sl i) ⟨env, hp⟩
    | _ => False) := by
  simp only [wp_def]; unfold wp0 mSlot
  cases e : env[i]? with
  | none => simp only [e]
  | some z => cases z <;> simp only [e]
@[simp ↓] theorem wp_hdl {m : M U} {Q : Hd → S → Prop} : wp (hdl m) Φ s Q E ↔ wp m Φ s (fun u s' => Q (.u u) s') E := by unfold hdl; simp only [wp_bnd, wp_ret]
@[simp ↓] theorem wp_eVar {i : Nat} {Q : U → S → Prop} : wp (eVar i) Φ ⟨env, hp⟩ Q E ↔ (match env[i]? with
    | some (.val u) => Q u ⟨env, hp⟩
    | some (.ol us) => Q (.lst us) ⟨env.set i (.val (.lst us)), hp⟩
    | some (.od t kvs) => Q (.dic t kvs) ⟨env.set i (.val (.dic t kvs)), hp⟩
    | _ => False) := by
  simp only [wp_def]; unfold wp0 eVar
  cases e : env[i]? with
  | none => simp only [e]
  | some z => cases z <;> simp only [e, setE]
variable {Q : U → S → Prop} {m m1 m2 m3 : M U} {mh : M Hd} {ms : M (List U)} {t t1 t2 : M Bool}
@[simp ↓] theorem wp_eC {u : U} : wp (eC u) Φ s Q E ↔ Q u s := wp_def.trans Iff.rfl
@[simp ↓] theorem wp_eBop {o : BOp} : wp (eBop o m1 m2) Φ s Q E ↔ wp m1 Φ s (fun u s1 => wp m2 Φ s1 (fun v s2 => oB (bop o u v) fun x => Q x s2) E) E := by unfold eBop; simp only [wp_bnd, wp_ofO]
@[simp ↓] theorem wp_eCop {o : COp} : wp (eCop o m1 m2) Φ s Q E ↔ wp m1 Φ s (fun u s1 => wp m2 Φ s1 (fun v s2 => oB (cop o u v) fun x => Q (.bl x) s2) E) E := by
  unfold eCop
  simp only [wp_bnd, wp_ofO, oB_map]
@[simp ↓] theorem wp_eMem {neg : Bool} : wp (eMem neg m1 mh) Φ s Q E ↔ wp m1 Φ s (fun u s1 => wp mh Φ s1 (fun h s2 => oB (memU s2 u h) fun x => Q (.bl (if neg = true then !x else x)) s2) E) E := by
  unfold eMem
  simp only [wp_bnd, wp_look, oB_map]
@[simp ↓] theorem wp_eGet : wp (eGet mh m) Φ s Q E ↔ wp mh Φ s (fun h s1 => wp m Φ s1 (fun i s2 => oB (getU s2 h i) fun x => Q x s2) E) E := by unfold eGet; simp only [wp_bnd, wp_look]
@[simp ↓] theorem wp_tV {Q : Bool → S → Prop} : wp (tV m) Φ s Q E ↔ wp m Φ s (fun u s' => match u with
    | .bl b => Q b s'
    | _ => False) E := by
  unfold tV; rw [wp_bnd]
  constructor <;> (intro h; refine wp_imp h fun x s' q => ?_; cases x <;> first | exact q | simpa using q)
@[simp ↓] theorem wp_tNot {Q : Bool → S → Prop} : wp (tNot' t) Φ s Q E ↔ wp t Φ s (fun b s' => Q (!b) s') E := by unfold tNot'; simp only [wp_bnd, wp_ret]
@[simp ↓] theorem wp_tAnd {Q : Bool → S → Prop} : wp (tAnd' t1 t2) Φ s Q E ↔ wp t1 Φ s (fun b s' => if b = true then wp t2 Φ s' Q E else Q false s') E := by
  unfold tAnd'; rw [wp_bnd]
  constructor <;> (intro h; refine wp_imp h fun x s' q => ?_; cases x <;> first | exact q | simpa using q)
@[simp ↓] theorem wp_tOr {Q : Bool → S → Prop} : wp (tOr' t1 t2) Φ s Q E ↔ wp t1 Φ s (fun b s' => if b = true then Q true s' else wp t2 Φ s' Q E) E := by
  unfold tOr'; rw [wp_bnd]
  constructor <;> (intro h; refine wp_imp h fun x s' q => ?_; cases x <;> first | exact q | simpa using q)
@[simp ↓] theorem wp_eAnd : wp (eAnd m1 m2) Φ s Q E ↔ wp m1 Φ s (fun u s' => match u with
    | .bl b => if b = true then wp m2 Φ s' Q E else Q (.bl false) s'
    | _ => False) E := by
  unfold eAnd; rw [wp_bnd]
  constructor <;> (intro h; refine wp_imp h fun x s' q => ?_; cases x <;> first | exact q | simpa using q | (rename_i b; cases b <;> first | exact q | simpa using q))
@[simp ↓] theorem wp_eOr : wp (eOr m1 m2) Φ s Q E ↔ wp m1 Φ s (fun u s' => match u with
    | .bl b => if b = true then Q (.bl true) s' else wp m2 Φ s' Q E
    | _ => False) E := by
  unfold eOr; rw [wp_bnd]
  constructor <;> (intro h; refine wp_imp h fun x s' q => ?_; cases x <;> first | exact q | simpa using q | (rename_i b; cases b <;> first | exact q | simpa using q))
@[simp ↓] theorem wp_eNot : wp (eNot m) Φ s Q E ↔ wp m Φ s (fun u s' => match u with
    | .bl b => Q (.bl (!b)) s'
    | _ => False) E := by
  unfold eNot; rw [wp_bnd]
  constructor <;> (intro h; refine wp_imp h fun x s' q => ?_; cases x <;> first | exact q | simpa using q)
@[simp ↓] theorem wp_eNeg : wp (eNeg m) Φ s Q E ↔ wp m Φ s (fun u s' => match u with
    | .int b => Q (.int (-b)) s'
    | _ => False) E := by
  unfold eNeg; rw [wp_bnd]
  constructor <;> (intro h; refine wp_imp h fun x s' q => ?_; cases x <;> first | exact q | simpa using q)
@[simp ↓] theorem wp_eIf : wp (eIf t m1 m2) Φ s Q E ↔ wp t Φ s (fun b s' => if b = true then wp m1 Φ s' Q E else wp m2 Φ s' Q E) E := by
  unfold eIf; rw [wp_bnd]
  constructor <;> (intro h; refine wp_imp h fun x s' q => ?_; cases x <;> first | exact q | simpa using q)
@[simp ↓] theorem wp_aNil {Q : List U → S → Prop} : wp aNil Φ s Q E ↔ Q [] s := wp_def.trans Iff.rfl
@[simp ↓] theorem wp_aCons {Q : List U → S → Prop} : wp (aCons m ms) Φ s Q E ↔ wp m Φ s (fun u s1 => wp ms Φ s1 (fun us s2 => Q (u :: us) s2) E) E := by unfold aCons; simp only [wp_bnd, wp_ret]
@[simp ↓] theorem wp_eTup : wp (eTup ms) Φ s Q E ↔ wp ms Φ s (fun us s' => us.length ≤ line ∧ Q (.tup us) s') E := by
  unfold eTup; simp only [wp_bnd, wp_ofO]
  constructor <;> (intro h; refine wp_imp h fun x s' q => ?_)
  · by_cases z : x.length ≤ line
    · rw [if_pos z] at q; exact ⟨z, by simpa using q⟩
    · rw [if_neg z] at q; exact (by simpa using q : False).elim
  · rw [if_pos q.1]; simpa using q.2
@[simp ↓] theorem wp_eCall {q : Str} {np : Nat} : wp (eCall q np ms) Φ s Q E ↔ wp ms Φ s (fun us s' => us.length = np ∧ wq Φ q us s'.hp (fun u hp' => Q u ⟨s'.env, hp'⟩) E) E := by
  unfold eCall; rw [wp_bnd]
  have key : ∀ x (s' : S), wp (callM q x) Φ s' Q E ↔ wq Φ q x s'.hp (fun u hp' => Q u ⟨s'.env, hp'⟩) E := fun x s' => by
    simp only [wp_def, wq_def]; unfold wp0 callM wq0
    cases Φ q x s'.hp with
    | none => exact Iff.rfl
    | some r => cases r <;> exact Iff.rfl
  constructor <;> (intro h; refine wp_imp h fun x s' z => ?_)
  · by_cases c : x.length = np
    · rw [if_pos c] at z; exact ⟨c, (key _ _).mp z⟩
    · rw [if_neg c] at z; exact (wp_fail.mp z).elim
  · rw [if_pos z.1]; exact (key _ _).mpr z.2
@[simp ↓] theorem wp_eLen : wp (eLen mh) Φ s Q E ↔ wp mh Φ s (fun h s' => oB (lenU s' h) fun x => Q x s') E := by unfold eLen; simp only [wp_bnd, wp_look]
@[simp ↓] theorem wp_eTupleOf : wp (eTupleOf mh) Φ s Q E ↔ wp mh Φ s (fun h s' => oB (tupleU s' h) fun x => Q x s') E := by unfold eTupleOf; simp only [wp_bnd, wp_look]
@[simp ↓] theorem wp_eListOf : wp (eListOf mh) Φ s Q E ↔ wp mh Φ s (fun h s' => oB (listU s' h) fun x => Q x s') E := by unfold eListOf; simp only [wp_bnd, wp_look]
@[simp ↓] theorem wp_eSorted : wp (eSorted mh) Φ s Q E ↔ wp mh Φ s (fun h s' => oB (sortedU s' h) fun x => Q x s') E := by unfold eSorted; simp only [wp_bnd, wp_look]
@[simp ↓] theorem wp_eInt1 : wp (eInt1 m) Φ s Q E ↔ wp m Φ s (fun u s' => oB (int1 u) fun x => Q x s') E := by unfold eInt1; simp only [wp_bnd, wp_ofO]
@[simp ↓] theorem wp_eMM2 {lt : Bool} : wp (eMM2 lt ms) Φ s Q E ↔ wp ms Φ s (fun us s' => oB (mm2 lt us) fun x => Q x s') E := by unfold eMM2; simp only [wp_bnd, wp_ofO]
@[simp ↓] theorem wp_eApp : wp (eApp mh m) Φ s Q E ↔ wp mh Φ s (fun h s1 => (lstH s1 h).isSome = true ∧ wp m Φ s1 (fun u s2 => oB (appS s2 h u) fun x => Q x.1 x.2) E) E := by
  unfold eApp; simp only [wp_bnd, wp_chk, wp_act]
  constructor <;> (intro h; refine wp_imp h fun x s' z => ?_)
  · cases e : lstH s' x with
    | none => rw [e] at z; simp at z
    | some _ => rw [e] at z; exact ⟨rfl, by simpa using z⟩
  · cases e : lstH s' x with
    | none => rw [e] at z; cases z.1
    | some _ => simpa using z.2
@[simp ↓] theorem wp_ePop : wp (ePop mh) Φ s Q E ↔ wp mh Φ s (fun h s1 => oB (popS s1 h) fun x => Q x.1 x.2) E := by unfold ePop; simp only [wp_bnd, wp_act]
@[simp ↓] theorem wp_tTru {Q : Bool → S → Prop} : wp (tTru mh) Φ s Q E ↔ wp mh Φ s (fun h s' => oB (truU s' h) fun x => Q x s') E := by unfold tTru; simp only [wp_bnd, wp_look]
@[simp ↓] theorem wp_eChain {o o' : COp} : wp (eChain o o' m1 m2 m3) Φ s Q E ↔ wp m1 Φ s (fun u s1 => wp m2 Φ s1 (fun v s2 => oB (cop o u v) fun b => if b = true then wp m3 Φ s2 (fun z s3 => oB (cop o' v z) fun x => Q (.bl x) s3) E else Q (.bl false) s2) E) E := by
  unfold eChain; simp only [wp_bnd, wp_ofO]
  constructor <;> (intro h; refine wp_imp h fun x s' z => wp_imp z fun y s2 z2 => ?_) <;>
    (cases e : cop o x y with
    | none => rw [e] at z2; simp at z2
    | some b => rw [e] at z2; cases b <;> simpa using z2)
end
end EL
set_option Elab.async false
set_option linter.all false
set_option maxRecDepth 100000
/-! EM2: statements, loops, calls. -/
namespace EL
open PySem (Str PyData)

section
variable {α β : Type} {Φ : Phi} {s : S} {env : List SV} {hp : List EO} {E : Str → Str → U → List EO → Prop} {Q : Fl → S → Prop} {m m1 m2 : M U} {mh : M Hd} {mo : M SV} {a b : M Fl} {t : M Bool} {ms : M (List U)} {i : Nat}
@[simp ↓] theorem wp_sSeq : wp (sSeq a b) Φ s Q E ↔ wp a Φ s (fun f s' => match f with
    | .nx => wp b Φ s' Q E
    | .rt u => Q (.rt u) s'
    | .bk => Q .bk s'
    | .ct => Q .ct s') E := by
  unfold sSeq; rw [wp_bnd]
  constructor <;> (intro h; refine wp_imp h fun x s' q => ?_; cases x <;> first | exact q | simpa using q)
@[simp ↓] theorem wp_sNext : wp sNext Φ s Q E ↔ Q .nx s := wp_def.trans Iff.rfl
@[simp ↓] theorem wp_sBreak : wp sBreak Φ s Q E ↔ Q .bk s := wp_def.trans Iff.rfl
@[simp ↓] theorem wp_sCont : wp sCont Φ s Q E ↔ Q .ct s := wp_def.trans Iff.rfl
@[simp ↓] theorem wp_sRetN : wp sRetN Φ s Q E ↔ Q (.rt .non) s := wp_def.trans Iff.rfl
@[simp ↓] theorem wp_sExpr : wp (sExpr m) Φ s Q E ↔ wp m Φ s (fun _ s' => Q .nx s') E := by unfold sExpr; simp only [wp_bnd, wp_ret]
@[simp ↓] theorem wp_sRet : wp (sRet m) Φ s Q E ↔ wp m Φ s (fun u s' => Q (.rt u) s') E := by unfold sRet; simp only [wp_bnd, wp_ret]
@[simp ↓] theorem wp_sIf : wp (sIf t a b) Φ s Q E ↔ wp t Φ s (fun c s' => if c = true then wp a Φ s' Q E else wp b Φ s' Q E) E := by
  unfold sIf; rw [wp_bnd]
  constructor <;> (intro h; refine wp_imp h fun x s' q => ?_; cases x <;> first | exact q | simpa using q)
theorem wp_store {v : SV} : wp (store i v) Φ s Q E ↔ i < s.env.length ∧ Q .nx ⟨s.env.set i v, s.hp⟩ := by
  simp only [wp_def]; unfold wp0 store setE
  by_cases h : i < s.env.length
  · simp [h]
  · simp [h]
@[simp ↓] theorem wp_sSet : wp (sSet i m) Φ s Q E ↔ wp m Φ s (fun u s' => i < s'.env.length ∧ Q .nx ⟨s'.env.set i (.val u), s'.hp⟩) E := by unfold sSet; simp only [wp_bnd, wp_store]
@[simp ↓] theorem wp_sOwn : wp (sOwn i mo) Φ s Q E ↔ wp mo Φ s (fun u s' => i < s'.env.length ∧ Q .nx ⟨s'.env.set i u, s'.hp⟩) E := by unfold sOwn; simp only [wp_bnd, wp_store]
@[simp ↓] theorem wp_oLst {Q : SV → S → Prop} : wp (oLst ms) Φ s Q E ↔ wp ms Φ s (fun us s' => us.length ≤ line ∧ Q (.ol us) s') E := by
  unfold oLst; simp only [wp_bnd, wp_ofO]
  constructor <;> (intro h; refine wp_imp h fun x s' q => ?_)
  · by_cases z : x.length ≤ line
    · rw [if_pos z] at q; exact ⟨z, by simpa using q⟩
    · rw [if_neg z] at q; exact (by simpa using q : False).elim
  · rw [if_pos q.1]; simpa using q.2
@[simp ↓] theorem wp_oDic {Q : SV → S → Prop} {t : Bool} : wp (oDic t) Φ s Q E ↔ Q (.od t []) s := wp_def.trans Iff.rfl
def frzU : SV → Option U
  | .ol us => some (.lst us)
  | .od t kvs => some (.dic t kvs)
  | _ => none
@[simp] theorem frzU_no : frzU .no = none := rfl
@[simp] theorem frzU_val {u : U} : frzU (.val u) = none := rfl
@[simp] theorem frzU_ol {us : List U} : frzU (.ol us) = some (.lst us) := rfl
@[simp] theorem frzU_od {t : Bool} {us : List (U × U)} : frzU (.od t us) = some (.dic t us) := rfl
@[simp ↓] theorem wp_eFz {Q : U → S → Prop} : wp (eFz mo) Φ s Q E ↔ wp mo Φ s (fun v s' => oB (frzU v) fun u => Q u s') E := by
  unfold eFz; rw [wp_bnd]
  constructor <;> (intro h; refine wp_imp h fun x s' q => ?_; cases x <;> first | exact q | simpa using q)
@[simp ↓] theorem wp_eCell {Q : U → S → Prop} : wp (eCell mo) Φ s Q E ↔ wp mo Φ s (fun v s' => oB (cellOf v) fun o => Q (.ref s'.hp.length) ⟨s'.env, s'.hp ++ [o]⟩) E := by
  unfold eCell; rw [wp_bnd]
  have key : ∀ (x : SV) (s' : S), wp (match cellOf x with
    | some eo => (fun _ s => some (.ok (.ref s.hp.length) ⟨s.env, s.hp ++ [eo]⟩) : M U)
    | none => fail) Φ s' Q E ↔ oB (cellOf x) fun o => Q (.ref s'.hp.length) ⟨s'.env, s'.hp ++ [o]⟩ := fun x s' => by
    cases cellOf x with
    | none => simp
    | some o => rw [oB_some]; exact wp_def.trans Iff.rfl
  constructor <;> (intro h; refine wp_imp h fun x s' q => ?_)
  · exact (key _ _).mp q
  · exact (key _ _).mpr q
@[simp ↓] theorem wp_sItem : wp (sItem mh m1 m) Φ s Q E ↔ wp m Φ s (fun v s1 => wp mh Φ s1 (fun h s2 => wp m1 Φ s2 (fun i s3 => oB (itemS s3 h i v) fun x => Q x.1 x.2) E) E) E := by unfold sItem; simp only [wp_bnd, wp_act]
@[simp ↓] theorem wp_sAsgT {f : U → M Unit} : wp (sAsgT m f) Φ s Q E ↔ wp m Φ s (fun u s' => wp (f u) Φ s' (fun _ s2 => Q .nx s2) E) E := by unfold sAsgT; simp only [wp_bnd, wp_ret]
@[simp ↓] theorem wp_tgName {Q : Unit → S → Prop} {u : U} : wp (tgName i u) Φ s Q E ↔ i < s.env.length ∧ Q () ⟨s.env.set i (.val u), s.hp⟩ := by
  simp only [wp_def]; unfold wp0 tgName setE
  by_cases h : i < s.env.length
  · simp [h]
  · simp [h]
@[simp ↓] theorem wp_tgTup {Q : Unit → S → Prop} {f : List U → M Unit} {us : List U} {n : Nat} : wp (tgTup n f (.tup us)) Φ s Q E ↔ us.length = n ∧ wp (f us) Φ s Q E := by
  unfold tgTup
  by_cases h : us.length = n
  · simp [h]
  · simp [h]
@[simp ↓] theorem wp_tgsNil {Q : Unit → S → Prop} : wp (tgsNil []) Φ s Q E ↔ Q () s := wp_def.trans Iff.rfl
@[simp ↓] theorem wp_tgsCons {Q : Unit → S → Prop} {f : U → M Unit} {g : List U → M Unit} {u : U} {us : List U} : wp (tgsCons f g (u :: us)) Φ s Q E ↔ wp (f u) Φ s (fun _ s' => wp (g us) Φ s' Q E) E := by unfold tgsCons; rw [wp_bnd]
/-! loops -/
@[simp ↓] theorem wp_iItems {Q : List U → S → Prop} : wp (iItems m) Φ s Q E ↔ wp m Φ s (fun u s' => oB (itemsU u) fun us => Q us s') E := by unfold iItems; simp only [wp_bnd, wp_ofO]
@[simp ↓] theorem wp_iRange {Q : List U → S → Prop} : wp (iRange ms) Φ s Q E ↔ wp ms Φ s (fun us s' => oB (rng1 us) fun us => Q us s') E := by unfold iRange; simp only [wp_bnd, wp_ofO]
@[simp ↓] theorem wp_iRange2 {Q : List U → S → Prop} : wp (iRange2 ms) Φ s Q E ↔ wp ms Φ s (fun us s' => oB (rng2 us) fun us => Q us s') E := by unfold iRange2; simp only [wp_bnd, wp_ofO]
@[simp ↓] theorem wp_seqT {mt : M Unit} : wp (seqT mt b) Φ s Q E ↔ wp mt Φ s (fun _ s' => wp b Φ s' Q E) E := by unfold seqT; rw [wp_bnd]
@[simp ↓] theorem wp_sFor {mi : M (List U)} {f : U → M Unit} : wp (sFor mi f b) Φ s Q E ↔ wp mi Φ s (fun us s' => wp (forL (fun u => seqT (f u) b) us) Φ s' Q E) E := by unfold sFor; rw [wp_bnd]
@[simp ↓] theorem wp_forL_nil {body : U → M Fl} : wp (forL body []) Φ s Q E ↔ Q .nx s := wp_def.trans Iff.rfl
@[simp ↓] theorem wp_forL_cons {body : U → M Fl} {u : U} {us : List U} : wp (forL body (u :: us)) Φ s Q E ↔ wp (body u) Φ s (fun f s' => match f with
    | .nx => wp (forL body us) Φ s' Q E
    | .ct => wp (forL body us) Φ s' Q E
    | .bk => Q .nx s'
    | .rt v => Q (.rt v) s') E := by
  rw [forL, wp_bnd]
  constructor <;> (intro h; refine wp_imp h fun x s' q => ?_; cases x <;> first | exact q | simpa using q)
theorem wp_for {body : U → M Fl} : ∀ {us : List U} {s : S} (P : List U → S → Prop), P us s →
    (∀ u us s, P (u :: us) s → wp (body u) Φ s (fun f s' => match f with
      | .nx => P us s'
      | .ct => P us s'
      | .bk => Q .nx s'
      | .rt v => Q (.rt v) s') E) → (∀ s, P [] s → Q .nx s) → wp (forL body us) Φ s Q E
  | [], s, P, h0, step, fin => wp_forL_nil.mpr (fin s h0)
  | u :: us, s, P, h0, step, fin => by
    rw [wp_forL_cons]
    refine wp_imp (step u us s h0) fun x s' q => ?_
    cases x with
    | nx => exact wp_for P q step fin
    | ct => exact wp_for P q step fin
    | bk => exact q
    | rt v => exact q
end
/-! ### comprehensions -/
abbrev noE : Str → Str → U → List EO → Prop := fun _ _ _ _ => False
theorem wp_of {α : Type} {m : M α} {Φ : Phi} {s : S} {Q : α → S → Prop} (h : wp m Φ s Q noE) : ∃ x s', m Φ s = some (.ok x s') ∧ Q x s' := by
  rw [wp_def] at h; unfold wp0 at h
  cases e : m Φ s with
  | none => rw [e] at h; exact h.elim
  | some r => rw [e] at h; cases r with
    | ok x s' => exact ⟨x, s', rfl, h⟩
    | ex c f v s' => exact h.elim
section
variable {Φ : Phi} {s : S} {E : Str → Str → U → List EO → Prop} {f f1 : U → M Unit} {t t1 : M Bool} {m : M U} {vs vs1 : List Nat} {mi mi1 : M (List U)}
theorem wp_turn {Q : List U → S → Prop} {u : U} {yes no : M (List U)} : wp (turnM f t vs u yes no) Φ s Q E ↔ wp (f u) Φ ⟨wipeE s.env vs, s.hp⟩ (fun _ s2 => wp t Φ s2 (fun b s3 => if b = true then wp yes Φ s3 Q E else wp no Φ s3 Q E) E) E := by
  unfold turnM
  rw [wp_bnd]
  have key : ∀ (Q : Unit → S → Prop), wp (wipeM vs) Φ s Q E ↔ Q () ⟨wipeE s.env vs, s.hp⟩ := fun Q => wp_def.trans Iff.rfl
  rw [key, wp_bnd]
  constructor <;> (intro h; refine wp_imp h fun x s' q => ?_)
  · rw [wp_bnd] at q
    refine wp_imp q fun b s2 q => ?_
    cases b <;> exact q
  · rw [wp_bnd]
    refine wp_imp q fun b s2 q => ?_
    cases b <;> exact q
theorem wp_push {Q : List U → S → Prop} {acc : List U} : wp (pushM m acc) Φ s Q E ↔ wp m Φ s (fun v s' => acc.length < line ∧ Q (acc ++ [v]) s') E := by
  unfold pushM
  rw [wp_bnd]
  constructor <;> (intro h; refine wp_imp h fun x s' q => ?_)
  · by_cases z : acc.length < line
    · rw [if_pos z] at q; exact ⟨z, by simpa using q⟩
    · rw [if_neg z] at q; exact (by simpa using q : False).elim
  · rw [if_pos q.1]; simpa using q.2
/-- one clause, that leaves the state as it is: g says what each item gives -/
theorem lc_pure {e0 : List SV} {hp : List EO} (g : U → Option U) : ∀ (us acc : List U) (env : List SV), wipeE env vs = e0 → acc.length + us.length ≤ line →
    (∀ u ∈ us, wp (f u) Φ ⟨e0, hp⟩ (fun _ s2 => wp t Φ s2 (fun b s3 => if b = true then wp m Φ s3 (fun v s4 => g u = some v ∧ wipeE s4.env vs = e0 ∧ s4.hp = hp) noE else g u = none ∧ wipeE s3.env vs = e0 ∧ s3.hp = hp) noE) noE) →
    ∃ env', wipeE env' vs = e0 ∧ lcL f t m vs us acc Φ ⟨env, hp⟩ = some (.ok (acc ++ us.filterMap g) ⟨env', hp⟩)
  | [], acc, env, he, hl, h => ⟨env, he, by simp [lcL, ret]⟩
  | u :: us, acc, env, he, hl, h => by
    have h1 : wp (turnM f t vs u (pushM m acc) (ret acc)) Φ ⟨env, hp⟩ (fun acc' s' => acc' = acc ++ (g u).toList ∧ wipeE s'.env vs = e0 ∧ s'.hp = hp) noE := by
      rw [wp_turn]
      show wp (f u) Φ ⟨wipeE env vs, hp⟩ _ noE
      rw [he]
      refine wp_imp (h u (List.mem_cons_self ..)) fun _ s2 q => wp_imp q fun b s3 q => ?_
      cases b with
      | true =>
        simp only [if_true] at q ⊢
        rw [wp_push]
        refine wp_imp q fun v s4 q => ⟨by simp only [List.length_cons] at hl; omega, by rw [q.1]; rfl, q.2⟩
      | false =>
        simp only [Bool.false_eq_true, if_false] at q ⊢
        exact ⟨by rw [q.1]; simp, q.2⟩
    obtain ⟨acc', s', e1, rfl, e2, e3⟩ := wp_of h1
    obtain ⟨env1, hp1⟩ := s'
    have e3 : hp1 = hp := e3
    subst e3
    have hlen : (acc ++ (g u).toList).length + us.length ≤ line := by
      have : (g u).toList.length ≤ 1 := by cases g u <;> simp
      simp only [List.length_cons, List.length_append] at hl ⊢
      omega
    obtain ⟨env2, e4, e5⟩ := lc_pure g us _ env1 e2 hlen fun v hv => h v (List.mem_cons_of_mem _ hv)
    refine ⟨env2, e4, ?_⟩
    show bnd (turnM f t vs u (pushM m acc) (ret acc)) (fun acc' => lcL f t m vs us acc') Φ ⟨env, hp1⟩ = _
    unfold bnd
    rw [e1]
    show lcL f t m vs us (acc ++ (g u).toList) Φ ⟨env1, hp1⟩ = _
    rw [e5]
    cases e : g u <;> simp [e]
theorem wp_lc {Q : SV → S → Prop} (g : U → Option U) (h : wp mi Φ s (fun us s1 => us.length ≤ line ∧ (∀ u ∈ us, wp (f u) Φ ⟨wipeE s1.env vs, s1.hp⟩ (fun _ s2 => wp t Φ s2 (fun b s3 => if b = true then wp m Φ s3 (fun v s4 => g u = some v ∧ wipeE s4.env vs = wipeE s1.env vs ∧ s4.hp = s1.hp) noE else g u = none ∧ wipeE s3.env vs = wipeE s1.env vs ∧ s3.hp = s1.hp) noE) noE) ∧
    Q (.ol (us.filterMap g)) ⟨backE s1.env (wipeE s1.env vs) vs, s1.hp⟩) E) : wp (oLC mi f t m vs) Φ s Q E := by
  unfold oLC
  rw [wp_bnd]
  refine wp_imp h fun us s1 ⟨h1, h2, h3⟩ => ?_
  obtain ⟨env', e1, e2⟩ := lc_pure (Φ := Φ) (f := f) (t := t) (m := m) g us [] s1.env rfl (by simpa using h1) h2
  rw [wp_def]; unfold wp0
  simp only []
  have e2 : lcL f t m vs us [] Φ s1 = _ := e2
  rw [e2]
  show Q (.ol ([] ++ us.filterMap g)) ⟨backE s1.env (wipeE env' vs) vs, s1.hp⟩
  rw [e1, List.nil_append]
  exact h3
/-- two clauses -/
theorem lc2_pure {e0 : List SV} {hp : List EO} {B : Nat} (g : U → List U) : ∀ (us acc : List U) (env : List SV), wipeE env vs = e0 → acc.length + us.length * B ≤ line → (∀ u ∈ us, (g u).length ≤ B) →
    (∀ u ∈ us, ∀ acc, acc.length + B ≤ line → wp (f u) Φ ⟨e0, hp⟩ (fun _ s2 => wp t Φ s2 (fun b s3 => if b = true then wp mi1 Φ s3 (fun us1 s4 => wp (lcL f1 t1 m vs1 us1 acc) Φ s4 (fun acc' s5 => acc' = acc ++ g u ∧ wipeE s5.env vs = e0 ∧ s5.hp = hp) noE) noE else g u = [] ∧ wipeE s3.env vs = e0 ∧ s3.hp = hp) noE) noE) →
    ∃ env', wipeE env' vs = e0 ∧ lc2L f t vs mi1 f1 t1 m vs1 us acc Φ ⟨env, hp⟩ = some (.ok (acc ++ us.flatMap g) ⟨env', hp⟩)
  | [], acc, env, he, hl, hB, h => ⟨env, he, by simp [lc2L, ret]⟩
  | u :: us, acc, env, he, hl, hB, h => by
    have hl2 : acc.length + B + us.length * B ≤ line := by
      simp only [List.length_cons, Nat.add_mul, Nat.one_mul] at hl
      omega
    have h1 : wp (turnM f t vs u (bnd mi1 fun us1 => lcL f1 t1 m vs1 us1 acc) (ret acc)) Φ ⟨env, hp⟩ (fun acc' s' => acc' = acc ++ g u ∧ wipeE s'.env vs = e0 ∧ s'.hp = hp) noE := by
      rw [wp_turn]
      show wp (f u) Φ ⟨wipeE env vs, hp⟩ _ noE
      rw [he]
      refine wp_imp (h u (List.mem_cons_self ..) acc (by omega)) fun _ s2 q => wp_imp q fun b s3 q => ?_
      cases b with
      | true =>
        simp only [if_true] at q ⊢
        rw [wp_bnd]
        exact q
      | false =>
        simp only [Bool.false_eq_true, if_false] at q ⊢
        exact ⟨by rw [q.1]; simp, q.2⟩
    obtain ⟨acc', s', e1, rfl, e2, e3⟩ := wp_of h1
    obtain ⟨env1, hp1⟩ := s'
    have e3 : hp1 = hp := e3
    subst e3
    have hlen : (acc ++ g u).length + us.length * B ≤ line := by
      have := hB u (List.mem_cons_self ..)
      simp only [List.length_append]
      omega
    obtain ⟨env2, e4, e5⟩ := lc2_pure g us _ env1 e2 hlen (fun v hv => hB v (List.mem_cons_of_mem _ hv)) fun v hv => h v (List.mem_cons_of_mem _ hv)
    refine ⟨env2, e4, ?_⟩
    show bnd (turnM f t vs u (bnd mi1 fun us1 => lcL f1 t1 m vs1 us1 acc) (ret acc)) (fun acc' => lc2L f t vs mi1 f1 t1 m vs1 us acc') Φ ⟨env, hp1⟩ = _
    unfold bnd at e1 ⊢
    rw [e1]
    show lc2L f t vs mi1 f1 t1 m vs1 us (acc ++ g u) Φ ⟨env1, hp1⟩ = _
    rw [e5]
    simp
/-- two clauses; h, I, g: which first items count, what is walked inside, what each pair gives -/
theorem wp_lc2 {Q : SV → S → Prop} (hv : ∀ j, j ∈ vs1 → j ∈ vs) (B : Nat) (h : U → Bool) (I : U → List U) (g : U → U → Option U) (hq : wp mi Φ s (fun us s1 => us.length * B ≤ line ∧ (∀ u ∈ us, (I u).length ≤ B) ∧
    (∀ u ∈ us, wp (f u) Φ ⟨wipeE s1.env vs, s1.hp⟩ (fun _ s2 => wp t Φ s2 (fun b s3 => h u = b ∧ s3.hp = s1.hp ∧ wipeE s3.env vs = wipeE s1.env vs ∧ (b = true → wp mi1 Φ s3 (fun us1 s4 => us1 = I u ∧ s4.hp = s1.hp ∧ wipeE s4.env vs = wipeE s1.env vs ∧
      ∀ u1 ∈ us1, wp (f1 u1) Φ ⟨wipeE s4.env vs1, s1.hp⟩ (fun _ s5 => wp t1 Φ s5 (fun b s6 => if b = true then wp m Φ s6 (fun v s7 => g u u1 = some v ∧ wipeE s7.env vs1 = wipeE s4.env vs1 ∧ s7.hp = s1.hp) noE else g u u1 = none ∧ wipeE s6.env vs1 = wipeE s4.env vs1 ∧ s6.hp = s1.hp) noE) noE) noE)) noE) noE) ∧
    Q (.ol (us.flatMap fun u => if h u = true then (I u).filterMap (g u) else [])) ⟨backE s1.env (wipeE s1.env vs) vs, s1.hp⟩) E) : wp (oLC2 mi f t mi1 f1 t1 m vs vs1) Φ s Q E := by
  unfold oLC2
  rw [wp_bnd]
  refine wp_imp hq fun us s1 ⟨h1, hB, h2, h3⟩ => ?_
  obtain ⟨env', e1, e2⟩ := lc2_pure (Φ := Φ) (f := f) (t := t) (m := m) (f1 := f1) (t1 := t1) (mi1 := mi1) (vs1 := vs1) (B := B) (fun u => if h u = true then (I u).filterMap (g u) else []) us [] s1.env rfl (by simpa using h1) (fun u hu => by
    by_cases z : h u = true
    · rw [if_pos z]; exact Nat.le_trans (List.length_filterMap_le _ _) (hB u hu)
    · rw [if_neg z]; simp) (fun u hu acc hacc => wp_imp (h2 u hu) fun _ s2 q => wp_imp q fun b s3 ⟨q1, q2, q3, q4⟩ => by
      cases b with
      | false => simp only [Bool.false_eq_true, if_false]; exact ⟨by rw [q1]; simp, q3, q2⟩
      | true =>
        simp only [if_true]
        refine wp_imp (q4 rfl) fun us1 s4 ⟨p1, p2, p3, p4⟩ => ?_
        obtain ⟨env4, hp4⟩ := s4
        have p2 : hp4 = s1.hp := p2
        subst p2
        have hl1 : us1.length ≤ B := by rw [p1]; exact hB u hu
        obtain ⟨env5, e5, e6⟩ := lc_pure (Φ := Φ) (f := f1) (t := t1) (m := m) (vs := vs1) (g u) us1 acc env4 rfl (by omega) p4
        rw [wp_def]; unfold wp0
        rw [e6]
        refine ⟨?_, by rw [← wipeE_wipe (e := env5) hv, e5, wipeE_wipe hv]; exact p3, rfl⟩
        rw [q1, p1]; simp)
  rw [wp_def]; unfold wp0
  simp only []
  have e2 : lc2L f t vs mi1 f1 t1 m vs1 us [] Φ s1 = _ := e2
  rw [e2]
  show Q (.ol ([] ++ us.flatMap _)) ⟨backE s1.env (wipeE env' vs) vs, s1.hp⟩
  rw [e1, List.nil_append]
  exact h3
end
/-! ### calls, by a table of E programs -/
abbrev Tab := Str → Option (Nat × Nat × M Fl)
def mkEnv (n : Nat) (us : List U) : List SV := us.map SV.val ++ List.replicate (n - us.length) .no
def runM (m : M Fl) (n : Nat) (Φ : Phi) (us : List U) (hp : List EO) : Option FR := match m Φ ⟨mkEnv n us, hp⟩ with
  | none => none
  | some (.ok (.rt u) s) => some (.ok u s.hp)
  | some (.ok .nx s) => some (.ok .non s.hp)
  | some (.ok _ _) => none
  | some (.ex c f v s) => some (.ex c f v s.hp)
def phiT (tt : Tab) : Nat → Phi
  | 0 => fun _ _ _ => none
  | n + 1 => fun q us hp => match tt q with
    | some (np, nn, m) => if us.length = np then runM m nn (phiT tt n) us hp else none
    | none => none
def tabOf (tb : List DE) : Tab := fun q => (findD tb q).map fun e => (e.ps.length, e.N.length, e.m)
theorem phi_eq (tb : List DE) : ∀ n, phi tb n = phiT (tabOf tb) n
  | 0 => rfl
  | n + 1 => by
    funext q us hp
    show (match findD tb q with
      | some e => if us.length = e.ps.length then runD e (phi tb n) us hp else none
      | none => none) = (match (findD tb q).map fun e => (e.ps.length, e.N.length, e.m) with
      | some (np, nn, m) => if us.length = np then runM m nn (phiT (tabOf tb) n) us hp else none
      | none => none)
    rw [phi_eq tb n]
    cases findD tb q <;> rfl
theorem wq_call {tt : Tab} {q : Str} {np nn n : Nat} {m : M Fl} {us : List U} {hp : List EO} {Q : U → List EO → Prop} {E : Str → Str → U → List EO → Prop} (h : tt q = some (np, nn, m)) (hl : us.length = np) : wq (phiT tt (n + 1)) q us hp Q E ↔ wp m (phiT tt n) ⟨mkEnv nn us, hp⟩ (fun f s => match f with
    | .rt u => Q u s.hp
    | .nx => Q .non s.hp
    | _ => False) E := by
  have e : phiT tt (n + 1) q us hp = runM m nn (phiT tt n) us hp := by
    show (match tt q with
      | some (np, nn, m) => if us.length = np then runM m nn (phiT tt n) us hp else none
      | none => none) = _
    rw [h]
    exact if_pos hl
  rw [wq_def]; unfold wq0
  rw [e]
  simp only [wp_def]; unfold wp0 runM
  cases m (phiT tt n) ⟨mkEnv nn us, hp⟩ with
  | none => exact Iff.rfl
  | some r => cases r with
    | ok f s => cases f <;> exact Iff.rfl
    | ex c f v s => exact Iff.rfl
theorem eq_of_wq {Φ : Phi} {q : Str} {us : List U} {hp hp' : List EO} {u : U} (h : wq Φ q us hp (fun x h => x = u ∧ h = hp') noE) : Φ q us hp = some (.ok u hp') := by
  rw [wq_def] at h; unfold wq0 at h
  cases e : Φ q us hp with
  | none => rw [e] at h; exact h.elim
  | some r => rw [e] at h; cases r with
    | ok x s' => obtain ⟨rfl, rfl⟩ := h; rfl
    | ex c f v s' => exact h.elim
theorem wq_of_eq {Φ : Phi} {q : Str} {us : List U} {hp hp' : List EO} {u : U} {Q : U → List EO → Prop} {E : Str → Str → U → List EO → Prop} (h : Φ q us hp = some (.ok u hp')) : wq Φ q us hp Q E ↔ Q u hp' := by
  rw [wq_def]; unfold wq0; rw [h]
end EL
set_option Elab.async false
set_option linter.all false
/-! PM: E programs of defs that several laws have; printed by shared.py. -/
namespace EL.PM
open PySem EL
def m_is_number : M Fl :=
 (sRet (eAnd (eIsi "int" (eVar 0)) (eAnd (eNot (eIsi "bool" (eVar 0))) (eChain .le .le (eC (.int 0)) (eVar 0) (eVar 1)))))
def t_is_number : Nat × Nat × M Fl := (2, 2, m_is_number)
def m_states_fit : M Fl :=
 (sSeq (sFor (iItems (eTup (aCons (eVar 0) (aCons (eVar 1) (aCons (eVar 2) aNil))))) (tgName 3)
 (sIf (tOr' (tNot' (tTru (hdl (eIsi "tuple" (eVar 3))))) (tOr' (tNot' (tV (eChain .le .le (eC (.int 1)) (eLen (mSlot 3)) (eC (.int 3))))) (tV (eCop .ne (eLen (mSlot 3)) (eLen (mSlot 0))))))
 (sRet (eC (.bl false)))
 sNext))
 (sSeq (sFor (iItems (eTup (aCons (eTup (aCons (eVar 0) (aCons (eC (.int 1)) aNil))) (aCons (eTup (aCons (eVar 1) (aCons (eC (.int 2)) aNil))) (aCons (eTup (aCons (eVar 2) (aCons (eC (.int 1)) aNil))) aNil))))) (tgTup 2 (tgsCons (tgName 3) (tgsCons (tgName 4) tgsNil)))
 (sFor (iItems (eVar 3)) (tgName 5)
 (sIf (tNot' (tTru (hdl (eCall "is_number" 2 (aCons (eVar 5) (aCons (eVar 4) aNil))))))
 (sRet (eC (.bl false)))
 sNext)))
 (sRet (eC (.bl true)))))
def t_states_fit : Nat × Nat × M Fl := (3, 6, m_states_fit)
def m_move_fits : M Fl :=
 (sSeq (sIf (tOr' (tNot' (tTru (hdl (eIsi "tuple" (eVar 0))))) (tOr' (tV (eCop .ne (eLen (mSlot 0)) (eC (.int 2)))) (tNot' (tTru (hdl (eCall "is_number" 2 (aCons (eGet (mSlot 0) (eC (.int 0))) (aCons (eBop .sub (eVar 1) (eC (.int 1))) aNil))))))))
 (sRet (eC (.bl false)))
 sNext)
 (sSeq (sSet 3 (eGet (mSlot 0) (eC (.int 1))))
 (sSeq (sIf (tOr' (tNot' (tTru (hdl (eIsi "tuple" (eVar 3))))) (tV (eCop .gt (eLen (mSlot 3)) (eC (.int 2)))))
 (sRet (eC (.bl false)))
 sNext)
 (sSeq (sFor (iItems (eVar 3)) (tgName 4)
 (sIf (tNot' (tTru (hdl (eCall "is_number" 2 (aCons (eVar 4) (aCons (eBop .sub (eVar 2) (eC (.int 1))) aNil))))))
 (sRet (eC (.bl false)))
 sNext))
 (sRet (eC (.bl true)))))))
def t_move_fits : Nat × Nat × M Fl := (3, 5, m_move_fits)
def m_row_fits : M Fl :=
 (sSeq (sIf (tOr' (tNot' (tTru (hdl (eIsi "tuple" (eVar 0))))) (tV (eCop .gt (eLen (mSlot 0)) (eC (.int 3)))))
 (sRet (eC (.bl false)))
 sNext)
 (sSeq (sFor (iEnumU (eVar 0)) (tgTup 2 (tgsCons (tgName 3) (tgsCons (tgName 4) tgsNil)))
 (sIf (tOr' (tNot' (tTru (hdl (eCall "move_fits" 3 (aCons (eVar 4) (aCons (eVar 1) (aCons (eVar 2) aNil))))))) (tV (eMem false (eVar 4) (hdl (eSl (mSlot 0) pNone (pSome (eVar 3)))))))
 (sRet (eC (.bl false)))
 sNext))
 (sRet (eC (.bl true)))))
def t_row_fits : Nat × Nat × M Fl := (3, 5, m_row_fits)
def m_rows_fit : M Fl :=
 (sSeq (sFor (iPairsC (eVar 0)) (tgTup 2 (tgsCons (tgName 3) (tgsCons (tgName 4) tgsNil)))
 (sSeq (sIf (tOr' (tNot' (tTru (hdl (eIsi "tuple" (eVar 3))))) (tV (eCop .ne (eLen (mSlot 3)) (eC (.int 2)))))
 (sRet (eC (.bl false)))
 sNext)
 (sSeq (sIf (tOr' (tNot' (tTru (hdl (eCall "is_number" 2 (aCons (eGet (mSlot 3) (eC (.int 0))) (aCons (eBop .sub (eVar 1) (eC (.int 1))) aNil)))))) (tNot' (tTru (hdl (eCall "is_number" 2 (aCons (eGet (mSlot 3) (eC (.int 1))) (aCons (eBop .sub (eVar 2) (eC (.int 1))) aNil)))))))
 (sRet (eC (.bl false)))
 sNext)
 (sIf (tNot' (tTru (hdl (eCall "row_fits" 3 (aCons (eVar 4) (aCons (eVar 1) (aCons (eVar 2) aNil)))))))
 (sRet (eC (.bl false)))
 sNext))))
 (sRet (eC (.bl true))))
def t_rows_fit : Nat × Nat × M Fl := (3, 5, m_rows_fit)
def m_law_draw : M Fl :=
 (sSeq (sIf (tV (eCop .lt (eGet (mSlot 0) (eC (.int 0))) (eVar 1)))
 (sSeq (sItem (mSlot 0) (eC (.int 1)) (eBop .mod (eInt1 (eBop .add (eBop .add (eBop .mul (eGet (mSlot 0) (eC (.int 1))) (eC (.int 48271))) (eC (.int 11))) (eGet (mSlot 0) (eC (.int 2))))) (eC (.int 2147483647))))
 (sItem (mSlot 0) (eC (.int 0)) (eBop .add (eGet (mSlot 0) (eC (.int 0))) (eBop .mul (eGet (mSlot 0) (eC (.int 1))) (eC (.int 1000003))))))
 sNext)
 (sSeq (sSet 2 (eBop .mod (eInt1 (eGet (mSlot 0) (eC (.int 0)))) (eVar 1)))
 (sSeq (sItem (mSlot 0) (eC (.int 0)) (eBop .fdiv (eGet (mSlot 0) (eC (.int 0))) (eVar 1)))
 (sRet (eVar 2)))))
def t_law_draw : Nat × Nat × M Fl := (2, 3, m_law_draw)
def m_law_source : M Fl :=
 (sSeq (sSet 2 (eC (.int 0)))
 (sSeq (sIf (tV (eCop .lt (eVar 1) (eLen (mSlot 0))))
 (sSet 2 (eGet (mSlot 0) (eVar 1)))
 sNext)
 (sSeq (sIf (tV (eCop .lt (eVar 2) (eC (.int 0))))
 (sSet 2 (eBop .add (eBop .mul (eNeg (eC (.int 2))) (eVar 2)) (eC (.int 1))))
 sNext)
 (sSeq (sSet 3 (eBop .mul (eC (.int 17)) (eVar 1)))
 (sSeq (sFor (iRange (aCons (eLen (mSlot 0)) aNil)) (tgName 4)
 (sSet 3 (eBop .mod (eInt1 (eBop .add (eBop .mul (eVar 3) (eC (.int 31))) (eGet (mSlot 0) (eVar 4)))) (eC (.int 1000003)))))
 (sRet (eCell (oLst (aCons (eVar 2) (aCons (eBop .add (eBop .mod (eInt1 (eVar 2)) (eC (.int 1000003))) (eVar 3)) (aCons (eVar 1) aNil)))))))))))
def t_law_source : Nat × Nat × M Fl := (2, 5, m_law_source)
def m_law_choice : M Fl :=
 (sRet (eGet (mSlot 1) (eCall "_law_draw" 2 (aCons (eVar 0) (aCons (eLen (mSlot 1)) aNil)))))
def t_law_choice : Nat × Nat × M Fl := (2, 2, m_law_choice)
def m_law_between : M Fl :=
 (sRet (eCop .eq (eLen (hdl (eFz (oLC (iItems (eVar 0)) (tgName 2) (tOr' (tV (eCop .lt (eVar 2) (eC (.int 0)))) (tV (eCop .gt (eVar 2) (eVar 1)))) (eVar 2) [2])))) (eC (.int 0))))
def t_law_between : Nat × Nat × M Fl := (2, 3, m_law_between)
def m_Duel___init__ : M Fl :=
 (sSeq (sIf (tNot' (tTru (hdl (eCall "states_fit" 3 (aCons (eVar 1) (aCons (eVar 2) (aCons (eVar 3) aNil)))))))
 fail
 sNext)
 (sSeq (sIf (tOr' (tNot' (tTru (hdl (eCall "is_number" 2 (aCons (eVar 4) (aCons (eC (.int 3)) aNil)))))) (tV (eCop .eq (eVar 4) (eC (.int 0)))))
 fail
 sNext)
 (sSeq (sIf (tNot' (tTru (hdl (eCall "rows_fit" 3 (aCons (eVar 5) (aCons (eLen (mSlot 1)) (aCons (eVar 4) aNil)))))))
 fail
 sNext)
 (sSeq (sFldS "Duel" "sides" (eVar 0) (eVar 1))
 (sSeq (sFldS "Duel" "ranks" (eVar 0) (eVar 2))
 (sSeq (sFldS "Duel" "ends" (eVar 0) (eVar 3))
 (sSeq (sFldS "Duel" "letters" (eVar 0) (eVar 4))
 (sFldS "Duel" "_rows" (eVar 0) (eFz (oDC true (iPairsC (eVar 5)) (tgTup 2 (tgsCons (tgName 6) (tgsCons (tgName 7) tgsNil))) (ret true) (eVar 6) (eVar 7) [6, 7]))))))))))
def t_Duel___init__ : Nat × Nat × M Fl := (6, 8, m_Duel___init__)
def m_Duel_row : M Fl :=
 (sRet (eGetD (hdl (eFld "_rows" (eVar 0))) (eTup (aCons (eVar 1) (aCons (eVar 2) aNil))) (eTup aNil)))
def t_Duel_row : Nat × Nat × M Fl := (3, 3, m_Duel_row)
def m_Duel_rows : M Fl :=
 (sSeq (sOwn 1 (oLC2 (iRange (aCons (eLen (hdl (eFld "sides" (eVar 0)))) aNil)) (tgName 2) (ret true) (iRange (aCons (eFld "letters" (eVar 0)) aNil)) (tgName 3) (ret true) (eTup (aCons (eVar 2) (aCons (eVar 3) aNil))) [2, 3] [3]))
 (sRet (eFz (oDC true (iItems (eVar 1)) (tgName 4) (ret true) (eVar 4) (eMeth "Duel" "row" "Duel.row" 3 (eVar 0) (aCons (eGet (mSlot 4) (eC (.int 0))) (aCons (eGet (mSlot 4) (eC (.int 1))) aNil))) [4]))))
def t_Duel_rows : Nat × Nat × M Fl := (1, 5, m_Duel_rows)
def m_alike : M Fl :=
 (sSeq (sIf (tV (eEqH true (hdl (eTup (aCons (eFld "sides" (eVar 0)) (aCons (eFld "ranks" (eVar 0)) (aCons (eFld "ends" (eVar 0)) (aCons (eFld "letters" (eVar 0)) aNil)))))) (hdl (eTup (aCons (eFld "sides" (eVar 1)) (aCons (eFld "ranks" (eVar 1)) (aCons (eFld "ends" (eVar 1)) (aCons (eFld "letters" (eVar 1)) aNil))))))))
 (sRet (eC (.bl false)))
 sNext)
 (sRet (eEqH false (hdl (eMeth "Duel" "rows" "Duel.rows" 1 (eVar 0) aNil)) (hdl (eMeth "Duel" "rows" "Duel.rows" 1 (eVar 1) aNil)))))
def t_alike : Nat × Nat × M Fl := (2, 2, m_alike)
def m_after : M Fl :=
 (sRet (eTup (aCons (eGet (mSlot 1) (eC (.int 0))) (aCons (eBop .add (eGet (mSlot 1) (eC (.int 1))) (eSl (mSlot 0) (pSome (eC (.int 1))) pNone)) aNil))))
def t_after : Nat × Nat × M Fl := (2, 2, m_after)
def m_law_row : M Fl :=
 (sSeq (sOwn 4 (oLst aNil))
 (sSeq (sFor (iRange (aCons (eCall "_law_draw" 2 (aCons (eVar 0) (aCons (eBop .add (eVar 3) (eC (.int 1))) aNil))) aNil)) (tgName 5)
 (sSeq (sSet 6 (eCall "_law_choice" 2 (aCons (eVar 0) (aCons (eFz (oLst (aCons (eC (.int 0)) (aCons (eC (.int 1)) (aCons (eC (.int 1)) (aCons (eC (.int 2)) (aCons (eC (.int 2)) aNil))))))) aNil))))
 (sSeq (sSet 7 (eTup (aCons (eCall "_law_draw" 2 (aCons (eVar 0) (aCons (eVar 1) aNil))) (aCons (eTupleOf (hdl (eFz (oLC (iRange (aCons (eVar 6) aNil)) (tgName 8) (ret true) (eCall "_law_draw" 2 (aCons (eVar 0) (aCons (eVar 2) aNil))) [8])))) aNil))))
 (sIf (tV (eMem true (eVar 7) (mSlot 4)))
 (sExpr (eApp (mSlot 4) (eVar 7)))
 sNext))))
 (sRet (eTupleOf (mSlot 4)))))
def t_law_row : Nat × Nat × M Fl := (4, 9, m_law_row)
def m_bit : M Fl :=
 (sRet (eBop .shl (eC (.int 1)) (eBop .add (eBop .mul (eC (.int 3)) (eVar 0)) (eVar 1))))
def t_bit : Nat × Nat × M Fl := (2, 2, m_bit)
def m_pairs_of : M Fl :=
 (sRet (eTupleOf (hdl (eFz (oLC2 (iRange (aCons (eC (.int 3)) aNil)) (tgName 1) (ret true) (iRange (aCons (eC (.int 3)) aNil)) (tgName 2) (tTru (hdl (eBop .band (eVar 0) (eCall "bit" 2 (aCons (eVar 1) (aCons (eVar 2) aNil)))))) (eTup (aCons (eVar 1) (aCons (eVar 2) aNil))) [1, 2] [2])))))
def t_pairs_of : Nat × Nat × M Fl := (1, 3, m_pairs_of)
def m_mask_of : M Fl :=
 (sSeq (sSet 1 (eC (.int 0)))
 (sSeq (sFor (iItems (eVar 0)) (tgTup 2 (tgsCons (tgName 2) (tgsCons (tgName 3) tgsNil)))
 (sSet 1 (eBop .bor (eVar 1) (eCall "bit" 2 (aCons (eVar 2) (aCons (eVar 3) aNil))))))
 (sRet (eVar 1))))
def t_mask_of : Nat × Nat × M Fl := (1, 4, m_mask_of)
def m_low : M Fl :=
 (sSeq (sSet 2 (eC (.int 0)))
 (sSeq (sFor (iItems (eCall "pairs_of" 1 (aCons (eVar 0) aNil))) (tgTup 2 (tgsCons (tgName 3) (tgsCons (tgName 4) tgsNil)))
 (sSet 2 (eBop .bor (eVar 2) (eCall "bit" 2 (aCons (eVar 3) (aCons (eMM2 true (aCons (eVar 4) (aCons (eVar 1) aNil))) aNil))))))
 (sRet (eVar 2))))
def t_low : Nat × Nat × M Fl := (2, 5, m_low)
def m_law_low : M Fl :=
 (sSeq (sOwn 2 (oLst aNil))
 (sSeq (sFor (iItems (eVar 0)) (tgTup 2 (tgsCons (tgName 3) (tgsCons (tgName 4) tgsNil)))
 (sSeq (sSet 5 (eTup (aCons (eVar 3) (aCons (eMM2 true (aCons (eVar 4) (aCons (eVar 1) aNil))) aNil))))
 (sIf (tV (eMem true (eVar 5) (mSlot 2)))
 (sExpr (eApp (mSlot 2) (eVar 5)))
 sNext)))
 (sRet (eTupleOf (hdl (eSorted (mSlot 2)))))))
def t_law_low : Nat × Nat × M Fl := (2, 6, m_law_low)
def m_within : M Fl :=
 (sRet (eCop .eq (eBop .bor (eVar 0) (eVar 1)) (eVar 1)))
def t_within : Nat × Nat × M Fl := (2, 2, m_within)
def m_least : M Fl :=
 (sSeq (sOwn 1 (oLst aNil))
 (sSeq (sFor (iItems (eSortSet (mSlot 0))) (tgName 2)
 (sIf (tNot' (tTru (hdl (eAnyW (mSlot 1) 2))))
 (sExpr (eApp (mSlot 1) (eVar 2)))
 sNext))
 (sRet (eVar 1))))
def t_least : Nat × Nat × M Fl := (1, 4, m_least)
def m_joined : M Fl :=
 (sRet (eCall "least" 1 (aCons (eFz (oLC2 (iItems (eVar 0)) (tgName 2) (ret true) (iItems (eVar 1)) (tgName 3) (ret true) (eBop .bor (eVar 2) (eVar 3)) [2, 3] [3])) aNil)))
def t_joined : Nat × Nat × M Fl := (2, 4, m_joined)
def m_lowered_family : M Fl :=
 (sRet (eCall "least" 1 (aCons (eFz (oLC (iItems (eVar 0)) (tgName 2) (ret true) (eCall "low" 2 (aCons (eVar 2) (aCons (eVar 1) aNil))) [2])) aNil)))
def t_lowered_family : Nat × Nat × M Fl := (2, 3, m_lowered_family)
def m_held : M Fl :=
 (sRet (eAnyW (mSlot 0) 1))
def t_held : Nat × Nat × M Fl := (2, 3, m_held)
def m_ranks_there : M Fl :=
 (sRet (eFz (oLC (iRange (aCons (eBop .add (eC (.int 2)) (eC (.int 1))) aNil)) (tgName 1) (tV (eMem false (eVar 1) (hdl (eFld "ranks" (eVar 0))))) (eVar 1) [1])))
def t_ranks_there : Nat × Nat × M Fl := (1, 2, m_ranks_there)
def m_used_by : M Fl :=
 (sSeq (sOwn 2 (oLst aNil))
 (sSeq (sOwn 3 (oLst (aCons (eVar 1) aNil)))
 (sSeq (sWhile (tTru (mSlot 3))
 (sSeq (sSet 4 (ePop (mSlot 3)))
 (sFor (iRange (aCons (eLen (hdl (eFld "sides" (eVar 0)))) aNil)) (tgName 5)
 (sFor (iItems (eMeth "Duel" "row" "Duel.row" 3 (eVar 0) (aCons (eVar 5) (aCons (eVar 4) aNil)))) (tgName 6)
 (sFor (iItems (eGet (mSlot 6) (eC (.int 1)))) (tgName 7)
 (sIf (tV (eMem true (eVar 7) (mSlot 2)))
 (sSeq (sExpr (eApp (mSlot 2) (eVar 7)))
 (sExpr (eApp (mSlot 3) (eVar 7))))
 sNext))))))
 (sRet (eSorted (mSlot 2))))))
def t_used_by : Nat × Nat × M Fl := (2, 8, m_used_by)
def m_needed_by : M Fl :=
 (sSeq (sSet 2 (eCall "used_by" 2 (aCons (eVar 0) (aCons (eVar 1) aNil))))
 (sRet (eFz (oLC (iRange (aCons (eFld "letters" (eVar 0)) aNil)) (tgName 3) (tOr' (tV (eCop .eq (eVar 3) (eVar 1))) (tV (eMem false (eVar 3) (mSlot 2)))) (eVar 3) [3]))))
def t_needed_by : Nat × Nat × M Fl := (2, 4, m_needed_by)
def m_group_of : M Fl :=
 (sSeq (sOwn 2 (oLst (aCons (eVar 1) aNil)))
 (sSeq (sFor (iItems (eCall "used_by" 2 (aCons (eVar 0) (aCons (eVar 1) aNil)))) (tgName 3)
 (sIf (tAnd' (tV (eCop .ne (eVar 3) (eVar 1))) (tV (eMem false (eVar 1) (hdl (eCall "used_by" 2 (aCons (eVar 0) (aCons (eVar 3) aNil)))))))
 (sExpr (eApp (mSlot 2) (eVar 3)))
 sNext))
 (sRet (eSorted (mSlot 2)))))
def t_group_of : Nat × Nat × M Fl := (2, 4, m_group_of)
def m_reckon_group : M Fl :=
 (sSeq (sOwn 3 (oDic false))
 (sSeq (sFor (iItems (eTup (aCons (eC (.int 0)) (aCons (eC (.int 1)) aNil)))) (tgName 4)
 (sSeq (sOwn 5 (oDC true (iPairsC (eGet (mSlot 2) (eVar 4))) (tgTup 2 (tgsCons (tgName 6) (tgsCons (tgName 7) tgsNil))) (ret true) (eVar 6) (eVar 7) [6, 7]))
 (sSeq (sSet 8 (eMeth "Equations" "settle" "Equations.settle" 3 (eMake "Equations" "Equations.__init__" 5 false (aCons (eVar 0) (aCons (eVar 4) (aCons (eVar 1) (aCons (eGet (mSlot 2) (eVar 4)) aNil))))) (aCons (eFz (oDic false)) (aCons (eC (.int 0)) aNil))))
 (sSeq (sFor (iPairsC (eVar 8)) (tgTup 2 (tgsCons (tgName 6) (tgsCons (tgName 7) tgsNil)))
 (sItem (mSlot 5) (eVar 6) (eVar 7)))
 (sItem (mSlot 3) (eVar 4) (eVar 5))))))
 (sRet (eVar 3))))
def t_reckon_group : Nat × Nat × M Fl := (3, 9, m_reckon_group)
def m_in_order : M Fl :=
 (sRet (eFz (oLC (iItems (eSorted (hdl (eFz (oLC (iRange (aCons (eFld "letters" (eVar 0)) aNil)) (tgName 3) (ret true) (eTup (aCons (eLen (hdl (eCall "needed_by" 2 (aCons (eVar 0) (aCons (eVar 3) aNil))))) (aCons (eVar 3) aNil))) [3]))))) (tgTup 2 (tgsCons (tgName 1) (tgsCons (tgName 2) tgsNil))) (ret true) (eVar 2) [1, 2])))
def t_in_order : Nat × Nat × M Fl := (1, 4, m_in_order)
def m_reckon : M Fl :=
 (sSeq (sSet 2 (eFz (oLst aNil)))
 (sSeq (sFor (iItems (eCall "in_order" 1 (aCons (eVar 0) aNil))) (tgName 3)
 (sIf (tV (eMem true (eTup (aCons (eC (.int 0)) (aCons (eVar 3) aNil))) (hdl (eGet (mSlot 1) (eC (.int 0))))))
 (sSeq (sSet 4 (eCall "group_of" 2 (aCons (eVar 0) (aCons (eVar 3) aNil))))
 (sSeq (sSet 1 (eCall "reckon_group" 3 (aCons (eVar 0) (aCons (eVar 4) (aCons (eVar 1) aNil)))))
 (sSet 2 (eBop .add (eVar 2) (eVar 4)))))
 sNext))
 (sRet (eTup (aCons (eVar 1) (aCons (eVar 2) aNil))))))
def t_reckon : Nat × Nat × M Fl := (2, 5, m_reckon)
def m_masks : M Fl :=
 (sSeq (sSet 2 (eGet (hdl (eCall "reckon" 2 (aCons (eVar 0) (aCons (eFz (oDisp (pCons (eC (.int 0)) (eFz (oDic true)) (pCons (eC (.int 1)) (eFz (oDic true)) pNil)))) aNil)))) (eC (.int 0))))
 (sRet (eGet (mSlot 2) (eVar 1))))
def t_masks : Nat × Nat × M Fl := (2, 3, m_masks)
def m_told_family : M Fl :=
 (sRet (eTupleOf (hdl (eSorted (hdl (eFz (oLC (iItems (eVar 0)) (tgName 1) (ret true) (eCall "pairs_of" 1 (aCons (eVar 1) aNil)) [1])))))))
def t_told_family : Nat × Nat × M Fl := (1, 2, m_told_family)
def m_families : M Fl :=
 (sSeq (sSet 2 (eCall "masks" 2 (aCons (eVar 0) (aCons (eVar 1) aNil))))
 (sRet (eFz (oDC true (iItems (eSorted (mSlot 2))) (tgName 3) (ret true) (eVar 3) (eCall "told_family" 1 (aCons (eGet (mSlot 2) (eVar 3)) aNil)) [3]))))
def t_families : Nat × Nat × M Fl := (2, 4, m_families)
def m_law_duel : M Fl :=
 (sSeq (sSet 4 (eTupleOf (hdl (eFz (oLC (iRange (aCons (eVar 1) aNil)) (tgName 5) (ret true) (eCall "_law_draw" 2 (aCons (eVar 0) (aCons (eC (.int 2)) aNil))) [5])))))
 (sSeq (sSet 6 (eTupleOf (hdl (eFz (oLC (iRange (aCons (eVar 1) aNil)) (tgName 5) (ret true) (eCall "_law_draw" 2 (aCons (eVar 0) (aCons (eC (.int 3)) aNil))) [5])))))
 (sSeq (sSet 7 (eTupleOf (hdl (eFz (oLC (iRange (aCons (eVar 1) aNil)) (tgName 5) (ret true) (eCall "_law_draw" 2 (aCons (eVar 0) (aCons (eC (.int 2)) aNil))) [5])))))
 (sSeq (sOwn 8 (oDic true))
 (sSeq (sFor (iRange (aCons (eVar 1) aNil)) (tgName 9)
 (sFor (iRange (aCons (eVar 2) aNil)) (tgName 10)
 (sSeq (sSet 11 (eCall "_law_row" 4 (aCons (eVar 0) (aCons (eVar 1) (aCons (eVar 2) (aCons (eVar 3) aNil))))))
 (sIf (tOr' (tV (eCop .ne (eVar 11) (eTup aNil))) (tV (eCop .gt (eCall "_law_draw" 2 (aCons (eVar 0) (aCons (eC (.int 3)) aNil))) (eC (.int 0)))))
 (sItem (mSlot 8) (eTup (aCons (eVar 9) (aCons (eVar 10) aNil))) (eVar 11))
 sNext))))
 (sRet (eMake "Duel" "Duel.__init__" 6 true (aCons (eVar 4) (aCons (eVar 6) (aCons (eVar 7) (aCons (eVar 2) (aCons (eVar 8) aNil))))))))))))
def t_law_duel : Nat × Nat × M Fl := (4, 12, m_law_duel)
def m_law_pairs : M Fl :=
 (sSeq (sOwn 1 (oLC (iRange (aCons (eC (.int 3)) aNil)) (tgName 2) (tV (eMem false (eVar 2) (hdl (eFld "ranks" (eVar 0))))) (eVar 2) [2]))
 (sSeq (sSet 3 (eFz (oLst aNil)))
 (sSeq (sFor (iRange (aCons (eLen (hdl (eFld "sides" (eVar 0)))) aNil)) (tgName 4)
 (sSet 3 (eBop .add (eVar 3) (eFz (oLC (iItems (eVar 1)) (tgName 2) (ret true) (eTup (aCons (eVar 4) (aCons (eVar 2) aNil))) [2])))))
 (sRet (eVar 3)))))
def t_law_pairs : Nat × Nat × M Fl := (1, 5, m_law_pairs)
def m_law_claims : M Fl :=
 (sSeq (sSet 1 (eFz (oLst (aCons (eTup aNil) aNil))))
 (sSeq (sFor (iItems (eCall "_law_pairs" 1 (aCons (eVar 0) aNil))) (tgName 2)
 (sSet 1 (eBop .add (eVar 1) (eFz (oLC (iItems (eVar 1)) (tgName 3) (ret true) (eBop .add (eVar 3) (eTup (aCons (eVar 2) aNil))) [3])))))
 (sRet (eVar 1))))
def t_law_claims : Nat × Nat × M Fl := (1, 4, m_law_claims)
def m_law_within : M Fl :=
 (sRet (eCop .eq (eLen (hdl (eFz (oLC (iItems (eVar 0)) (tgName 2) (tV (eMem true (eVar 2) (mSlot 1))) (eVar 2) [2])))) (eC (.int 0))))
def t_law_within : Nat × Nat × M Fl := (2, 3, m_law_within)
def m_law_holds : M Fl :=
 (sRet (eCop .gt (eLen (hdl (eFz (oLC (iItems (eVar 0)) (tgName 2) (tTru (hdl (eCall "_law_within" 2 (aCons (eVar 2) (aCons (eVar 1) aNil))))) (eVar 2) [2])))) (eC (.int 0))))
def t_law_holds : Nat × Nat × M Fl := (2, 3, m_law_holds)
def m_Equations___init__ : M Fl :=
 (sSeq (sFldS "Equations" "duel" (eVar 0) (eVar 1))
 (sSeq (sFldS "Equations" "side" (eVar 0) (eVar 2))
 (sSeq (sFldS "Equations" "nodes" (eVar 0) (eFz (oLC2 (iRange (aCons (eLen (hdl (eFld "sides" (eVar 1)))) aNil)) (tgName 5) (ret true) (iItems (eVar 3)) (tgName 6) (ret true) (eTup (aCons (eVar 5) (aCons (eVar 6) aNil))) [5, 6] [6])))
 (sSeq (sFldS "Equations" "known" (eVar 0) (eVar 4))
 (sSeq (sFldS "Equations" "ranks" (eVar 0) (eCall "ranks_there" 1 (aCons (eVar 1) aNil)))
 (sFldS "Equations" "met" (eVar 0) (eCell (oDC true (iItems (eFld "nodes" (eVar 0))) (tgName 7) (ret true) (eVar 7) (eCell (oDic false)) [7]))))))))
def t_Equations___init__ : Nat × Nat × M Fl := (5, 8, m_Equations___init__)
def m_Equations_family : M Fl :=
 (sSeq (sIf (tV (eMem false (eVar 3) (hdl (eFld "known" (eVar 0)))))
 (sRet (eGet (hdl (eFld "known" (eVar 0))) (eVar 3)))
 sNext)
 (sRet (eGet (hdl (eGet (mSlot 1) (eVar 2))) (eVar 3))))
def t_Equations_family : Nat × Nat × M Fl := (4, 4, m_Equations_family)
def m_Equations_push : M Fl :=
 (sSeq (sSet 4 (eGet (hdl (eFld "ranks" (eFld "duel" (eVar 0)))) (eVar 2)))
 (sSeq (sSet 5 (eFz (oLst aNil)))
 (sSeq (sFor (iItems (eCall "lowered_family" 2 (aCons (eMeth "Equations" "family" "Equations.family" 4 (eVar 0) (aCons (eVar 1) (aCons (eVar 4) (aCons (eTup (aCons (eVar 2) (aCons (eGet (mSlot 3) (eC (.int 0))) aNil))) aNil)))) (aCons (eVar 4) aNil)))) (tgName 6)
 (sSeq (sSet 7 (eFz (oLst (aCons (eC (.int 0)) aNil))))
 (sSeq (sFor (iItems (eCall "pairs_of" 1 (aCons (eVar 6) aNil))) (tgTup 2 (tgsCons (tgName 8) (tgsCons (tgName 9) tgsNil)))
 (sIf (tTru (mSlot 7))
 (sSet 7 (eCall "joined" 2 (aCons (eVar 7) (aCons (eCall "lowered_family" 2 (aCons (eMeth "Equations" "family" "Equations.family" 4 (eVar 0) (aCons (eVar 1) (aCons (eVar 9) (aCons (eTup (aCons (eVar 8) (aCons (eGet (mSlot 3) (eC (.int 1))) aNil))) aNil)))) (aCons (eVar 9) aNil))) aNil))))
 sNext))
 (sSet 5 (eBop .add (eVar 5) (eVar 7))))))
 (sRet (eCall "least" 1 (aCons (eVar 5) aNil))))))
def t_Equations_push : Nat × Nat × M Fl := (4, 10, m_Equations_push)
def m_Equations_move : M Fl :=
 (sSeq (sAsgT (eVar 2) (tgTup 2 (tgsCons (tgName 3) (tgsCons (tgName 4) tgsNil))))
 (sSeq (sSet 5 (eGet (hdl (eFld "ranks" (eFld "duel" (eVar 0)))) (eVar 3)))
 (sSeq (sIf (tV (eCop .eq (eLen (mSlot 4)) (eC (.int 0))))
 (sRet (eFz (oLst (aCons (eCall "bit" 2 (aCons (eVar 3) (aCons (eVar 5) aNil))) aNil))))
 sNext)
 (sSeq (sIf (tV (eCop .eq (eLen (mSlot 4)) (eC (.int 1))))
 (sRet (eCall "lowered_family" 2 (aCons (eMeth "Equations" "family" "Equations.family" 4 (eVar 0) (aCons (eVar 1) (aCons (eVar 5) (aCons (eTup (aCons (eVar 3) (aCons (eGet (mSlot 4) (eC (.int 0))) aNil))) aNil)))) (aCons (eVar 5) aNil))))
 sNext)
 (sRet (eMeth "Equations" "push" "Equations.push" 4 (eVar 0) (aCons (eVar 1) (aCons (eVar 3) (aCons (eVar 4) aNil)))))))))
def t_Equations_move : Nat × Nat × M Fl := (3, 6, m_Equations_move)
def m_Equations_node : M Fl :=
 (sSeq (sSet 3 (eMeth "Duel" "row" "Duel.row" 3 (eFld "duel" (eVar 0)) (aCons (eGet (mSlot 2) (eC (.int 0))) (aCons (eGet (mSlot 2) (eC (.int 1))) aNil))))
 (sSeq (sIf (tV (eCop .eq (eGet (hdl (eFld "sides" (eFld "duel" (eVar 0)))) (eGet (mSlot 2) (eC (.int 0)))) (eFld "side" (eVar 0))))
 (sRet (eCall "least" 1 (aCons (eFz (oLC2 (iItems (eVar 3)) (tgName 4) (ret true) (iItems (eMeth "Equations" "move" "Equations.move" 3 (eVar 0) (aCons (eVar 1) (aCons (eVar 4) aNil)))) (tgName 5) (ret true) (eVar 5) [4, 5] [5])) aNil)))
 sNext)
 (sSeq (sSet 6 (eFz (oLst (aCons (eC (.int 0)) aNil))))
 (sSeq (sFor (iItems (eVar 3)) (tgName 4)
 (sIf (tTru (mSlot 6))
 (sSet 6 (eCall "joined" 2 (aCons (eVar 6) (aCons (eMeth "Equations" "move" "Equations.move" 3 (eVar 0) (aCons (eVar 1) (aCons (eVar 4) aNil))) aNil))))
 sNext))
 (sRet (eVar 6))))))
def t_Equations_node : Nat × Nat × M Fl := (3, 7, m_Equations_node)
def m_Equations_settle : M Fl :=
 (sSeq (sIf (tV (eEqH false (mSlot 2) (hdl (eLen (hdl (eFld "ranks" (eVar 0)))))))
 (sSeq (sOwn 3 (oDC true (iItems (eFld "nodes" (eVar 0))) (tgName 4) (ret true) (eVar 4) (eMeth "Equations" "node" "Equations.node" 3 (eVar 0) (aCons (eVar 1) (aCons (eVar 4) aNil))) [4]))
 (sSeq (sFor (iPairsC (eVar 3)) (tgTup 2 (tgsCons (tgName 4) (tgsCons (tgName 5) tgsNil)))
 (sFor (iItems (eVar 5)) (tgName 6)
 (sItem (hdl (eGet (hdl (eFld "met" (eVar 0))) (eVar 4))) (eVar 6) (eC (.bl true)))))
 (sRet (eVar 3))))
 sNext)
 (sSeq (sSet 7 (eGet (hdl (eFld "ranks" (eVar 0))) (eVar 2)))
 (sSeq (sSet 8 (eIf (tV (eEqH false (hdl (eBop .mod (eVar 7) (eC (.int 2)))) (hdl (eFld "side" (eVar 0))))) (eFz (oLst (aCons (eC (.int 0)) aNil))) (eFz (oLst aNil))))
 (sSeq (sOwn 9 (oDC true (iItems (eFld "nodes" (eVar 0))) (tgName 4) (ret true) (eVar 4) (eVar 8) [4]))
 (sSeq (sSet 3 (eMeth "Equations" "settle" "Equations.settle" 3 (eVar 0) (aCons (eFz (oMerge (mSlot 1) (eVar 7) (eVar 9))) (aCons (eBop .add (eVar 2) (eC (.int 1))) aNil))))
 (sSeq (sWhile (tV (eEqH true (mSlot 3) (mSlot 9)))
 (sSeq (sSet 9 (eVar 3))
 (sSet 3 (eMeth "Equations" "settle" "Equations.settle" 3 (eVar 0) (aCons (eFz (oMerge (mSlot 1) (eVar 7) (eVar 9))) (aCons (eBop .add (eVar 2) (eC (.int 1))) aNil))))))
 (sRet (eVar 9))))))))
def t_Equations_settle : Nat × Nat × M Fl := (3, 10, m_Equations_settle)
def m_law_tried : M Fl :=
 (sSeq (sSet 2 (eCall "_law_claims" 1 (aCons (eVar 1) aNil)))
 (sSeq (sIf (tV (eCop .le (eLen (mSlot 2)) (eC (.int 64))))
 (sRet (eVar 2))
 sNext)
 (sRet (eFz (oLC (iRange (aCons (eC (.int 40)) aNil)) (tgName 3) (ret true) (eCall "_law_choice" 2 (aCons (eVar 0) (aCons (eVar 2) aNil))) [3])))))
def t_law_tried : Nat × Nat × M Fl := (2, 4, m_law_tried)
def m_law_rest : M Fl :=
 (sRet (eTupleOf (hdl (eFz (oLC (iItems (eCall "_law_pairs" 1 (aCons (eVar 0) aNil))) (tgName 2) (tV (eMem true (eVar 2) (mSlot 1))) (eVar 2) [2])))))
def t_law_rest : Nat × Nat × M Fl := (2, 3, m_law_rest)
def m_law_after : M Fl :=
 (sRet (eTup (aCons (eGet (mSlot 1) (eC (.int 0))) (aCons (eBop .add (eGet (mSlot 1) (eC (.int 1))) (eSl (mSlot 0) (pSome (eC (.int 1))) pNone)) aNil))))
def t_law_after : Nat × Nat × M Fl := (2, 2, m_law_after)
def m_whole_claim : M Fl :=
 (sSeq (sSet 2 (eC (.int 0)))
 (sSeq (sFor (iItems (eVar 1)) (tgName 3)
 (sFor (iItems (eCall "ranks_there" 1 (aCons (eVar 0) aNil))) (tgName 4)
 (sSet 2 (eBop .bor (eVar 2) (eCall "bit" 2 (aCons (eVar 3) (aCons (eVar 4) aNil)))))))
 (sRet (eVar 2))))
def t_whole_claim : Nat × Nat × M Fl := (2, 5, m_whole_claim)
def m_first_states : M Fl :=
 (sRet (eTupleOf (hdl (eFz (oLC (iEnumU (eFld "ends" (eVar 0))) (tgTup 2 (tgsCons (tgName 1) (tgsCons (tgName 2) tgsNil))) (tV (eCop .eq (eVar 2) (eC (.int 0)))) (eVar 1) [1, 2])))))
def t_first_states : Nat × Nat × M Fl := (1, 3, m_first_states)
def m_step : M Fl :=
 (sSeq (sSet 4 (eCall "whole_claim" 2 (aCons (eVar 0) (aCons (eVar 2) aNil))))
 (sRet (eTupleOf (hdl (eFz (oLC (iRange (aCons (eLen (hdl (eFld "sides" (eVar 0)))) aNil)) (tgName 5) (tTru (hdl (eCall "held" 2 (aCons (eGet (mSlot 1) (eTup (aCons (eVar 5) (aCons (eVar 3) aNil)))) (aCons (eVar 4) aNil))))) (eVar 5) [5]))))))
def t_step : Nat × Nat × M Fl := (4, 6, m_step)
def m_machine_of : M Fl :=
 (sSeq (sOwn 2 (oLst (aCons (eCall "first_states" 1 (aCons (eVar 0) aNil)) aNil)))
 (sSeq (sOwn 3 (oLst aNil))
 (sSeq (sWhile (tV (eCop .lt (eLen (mSlot 3)) (eLen (mSlot 2))))
 (sSeq (sSet 4 (eGet (mSlot 2) (eLen (mSlot 3))))
 (sSeq (sOwn 5 (oLst aNil))
 (sSeq (sFor (iRange (aCons (eFld "letters" (eVar 0)) aNil)) (tgName 6)
 (sSeq (sSet 7 (eCall "step" 4 (aCons (eVar 0) (aCons (eVar 1) (aCons (eVar 4) (aCons (eVar 6) aNil))))))
 (sSeq (sIf (tV (eMem true (eVar 7) (mSlot 2)))
 (sExpr (eApp (mSlot 2) (eVar 7)))
 sNext)
 (sExpr (eApp (mSlot 5) (eIndex (mSlot 2) (eVar 7)))))))
 (sExpr (eApp (mSlot 3) (eTup (aCons (eVar 4) (aCons (eTupleOf (mSlot 5)) aNil)))))))))
 (sRet (eTupleOf (mSlot 3))))))
def t_machine_of : Nat × Nat × M Fl := (2, 8, m_machine_of)
def m_machine : M Fl :=
 (sRet (eCall "machine_of" 2 (aCons (eVar 0) (aCons (eCall "masks" 2 (aCons (eVar 0) (aCons (eC (.int 0)) aNil))) aNil))))
def t_machine : Nat × Nat × M Fl := (1, 1, m_machine)
def m_row_of : M Fl :=
 (sSeq (sSet 2 (eC (.int 0)))
 (sSeq (sFor (iRevU (eVar 1)) (tgName 3)
 (sSet 2 (eGet (hdl (eGet (hdl (eGet (mSlot 0) (eVar 2))) (eC (.int 1)))) (eVar 3))))
 (sRet (eVar 2))))
def t_row_of : Nat × Nat × M Fl := (2, 4, m_row_of)
def m_winner_by : M Fl :=
 (sRet (eIf (tV (eMem false (eVar 1) (hdl (eGet (hdl (eGet (mSlot 0) (eCall "row_of" 2 (aCons (eVar 0) (aCons (eVar 2) aNil))))) (eC (.int 0)))))) (eC (.int 0)) (eC (.int 1))))
def t_winner_by : Nat × Nat × M Fl := (3, 3, m_winner_by)
def m_winner : M Fl :=
 (sRet (eCall "winner_by" 3 (aCons (eCall "machine" 1 (aCons (eVar 0) aNil)) (aCons (eVar 1) (aCons (eVar 2) aNil)))))
def t_winner : Nat × Nat × M Fl := (3, 3, m_winner)
def m_law_states : M Fl :=
 (sSeq (sSet 2 (eC (.int 0)))
 (sSeq (sFor (iRange (aCons (eLen (mSlot 1)) aNil)) (tgName 3)
 (sSet 2 (eGet (hdl (eGet (hdl (eGet (mSlot 0) (eVar 2))) (eC (.int 1)))) (eGet (mSlot 1) (eBop .sub (eBop .sub (eLen (mSlot 1)) (eC (.int 1))) (eVar 3))))))
 (sRet (eGet (hdl (eGet (mSlot 0) (eVar 2))) (eC (.int 0))))))
def t_law_states : Nat × Nat × M Fl := (2, 4, m_law_states)
def m_law_stacks : M Fl :=
 (sSeq (sSet 2 (eFz (oLst (aCons (eTup aNil) aNil))))
 (sSeq (sSet 3 (eFz (oLst (aCons (eTup aNil) aNil))))
 (sSeq (sFor (iRange (aCons (eVar 1) aNil)) (tgName 4)
 (sSeq (sSet 5 (eFz (oLst aNil)))
 (sSeq (sFor (iItems (eVar 3)) (tgName 6)
 (sSet 5 (eBop .add (eVar 5) (eFz (oLC (iRange (aCons (eVar 0) aNil)) (tgName 7) (ret true) (eBop .add (eTup (aCons (eVar 7) aNil)) (eVar 6)) [7])))))
 (sSeq (sSet 3 (eVar 5))
 (sSet 2 (eBop .add (eVar 2) (eVar 3)))))))
 (sRet (eVar 2)))))
def t_law_stacks : Nat × Nat × M Fl := (2, 8, m_law_stacks)
def m_law_pull : M Fl :=
 (sSeq (sOwn 4 (oLC (iItems (eVar 3)) (tgName 5) (ret true) (eVar 5) [5]))
 (sSeq (sSet 6 (eC (.bl true)))
 (sSeq (sWhile (tTru (mSlot 6))
 (sSeq (sSet 6 (eC (.bl false)))
 (sFor (iEnumU (eVar 0)) (tgTup 2 (tgsCons (tgName 7) (tgsCons (tgName 8) tgsNil)))
 (sIf (tAnd' (tTru (hdl (eGet (mSlot 1) (eVar 7)))) (tNot' (tTru (hdl (eGet (mSlot 4) (eVar 7))))))
 (sSeq (sOwn 9 (oLC (iItems (eGet (mSlot 8) (eC (.int 2)))) (tgName 10) (tTru (hdl (eGet (mSlot 1) (eVar 10)))) (eGet (mSlot 4) (eVar 10)) [10]))
 (sIf (tOr' (tAnd' (tV (eCop .eq (eGet (mSlot 8) (eC (.int 0))) (eVar 2))) (tV (eMem false (eC (.bl true)) (mSlot 9)))) (tAnd' (tV (eCop .ne (eGet (mSlot 8) (eC (.int 0))) (eVar 2))) (tV (eMem true (eC (.bl false)) (mSlot 9)))))
 (sSeq (sItem (mSlot 4) (eVar 7) (eC (.bl true)))
 (sSet 6 (eC (.bl true))))
 sNext))
 sNext))))
 (sRet (eVar 4)))))
def t_law_pull : Nat × Nat × M Fl := (4, 11, m_law_pull)
def m_law_solve : M Fl :=
 (sSeq (sOwn 2 (oLC (iRange (aCons (eLen (mSlot 0)) aNil)) (tgName 3) (tTru (hdl (eGet (mSlot 1) (eVar 3)))) (eVar 3) [3]))
 (sSeq (sIf (tV (eCop .eq (eVar 2) (eFz (oLst aNil))))
 (sRet (eFz (oLC (iRange (aCons (eLen (mSlot 0)) aNil)) (tgName 3) (ret true) (eC (.bl false)) [3])))
 sNext)
 (sSeq fail
 (sSeq (sSet 5 (eBop .mod (eInt1 (eVar 4)) (eC (.int 2))))
 (sSeq (sSet 6 (eCall "_law_pull" 4 (aCons (eVar 0) (aCons (eVar 1) (aCons (eVar 5) (aCons (eFz (oLC (iRange (aCons (eLen (mSlot 0)) aNil)) (tgName 3) (ret true) (eAnd (eGet (mSlot 1) (eVar 3)) (eCop .eq (eGet (hdl (eGet (mSlot 0) (eVar 3))) (eC (.int 1))) (eVar 4))) [3])) aNil))))))
 (sSeq (sSet 7 (eCall "_law_solve" 2 (aCons (eVar 0) (aCons (eFz (oLC (iRange (aCons (eLen (mSlot 0)) aNil)) (tgName 3) (ret true) (eAnd (eGet (mSlot 1) (eVar 3)) (eNot (eGet (mSlot 6) (eVar 3)))) [3])) aNil))))
 (sSeq (sOwn 8 (oLC (iRange (aCons (eLen (mSlot 0)) aNil)) (tgName 3) (ret true) (eAnd (eGet (mSlot 1) (eVar 3)) (eAnd (eNot (eGet (mSlot 6) (eVar 3))) (eCop .eq (eGet (mSlot 7) (eVar 3)) (eCop .eq (eVar 5) (eC (.int 1)))))) [3]))
 (sSeq (sIf (tV (eMem true (eC (.bl true)) (mSlot 8)))
 (sRet (eFz (oLC (iRange (aCons (eLen (mSlot 0)) aNil)) (tgName 3) (ret true) (eAnd (eGet (mSlot 1) (eVar 3)) (eCop .eq (eVar 5) (eC (.int 0)))) [3])))
 sNext)
 (sSeq (sSet 9 (eCall "_law_pull" 4 (aCons (eVar 0) (aCons (eVar 1) (aCons (eBop .sub (eC (.int 1)) (eVar 5)) (aCons (eVar 8) aNil))))))
 (sSeq (sSet 10 (eCall "_law_solve" 2 (aCons (eVar 0) (aCons (eFz (oLC (iRange (aCons (eLen (mSlot 0)) aNil)) (tgName 3) (ret true) (eAnd (eGet (mSlot 1) (eVar 3)) (eNot (eGet (mSlot 9) (eVar 3)))) [3])) aNil))))
 (sSeq (sIf (tV (eCop .eq (eVar 5) (eC (.int 1))))
 (sRet (eFz (oLC (iRange (aCons (eLen (mSlot 0)) aNil)) (tgName 3) (ret true) (eOr (eGet (mSlot 9) (eVar 3)) (eGet (mSlot 10) (eVar 3))) [3])))
 sNext)
 (sRet (eVar 10)))))))))))))
def t_law_solve : Nat × Nat × M Fl := (2, 11, m_law_solve)
def m_law_winner : M Fl :=
 (sSeq (sSet 3 (eC (.int 0)))
 (sSeq (sFor (iRange (aCons (eLen (mSlot 2)) aNil)) (tgName 4)
 (sSet 3 (eGet (hdl (eGet (hdl (eGet (mSlot 0) (eVar 3))) (eC (.int 1)))) (eGet (mSlot 2) (eBop .sub (eBop .sub (eLen (mSlot 2)) (eC (.int 1))) (eVar 4))))))
 (sSeq (sIf (tV (eMem false (eVar 1) (hdl (eGet (hdl (eGet (mSlot 0) (eVar 3))) (eC (.int 0))))))
 (sRet (eC (.int 0)))
 sNext)
 (sRet (eC (.int 1))))))
def t_law_winner : Nat × Nat × M Fl := (3, 5, m_law_winner)
def m_met_masks : M Fl :=
 (sSeq (sOwn 2 (oDic false))
 (sSeq (sOwn 3 (oDic false))
 (sSeq (sFor (iItems (eCall "in_order" 1 (aCons (eVar 0) aNil))) (tgName 4)
 (sIf (tV (eMem true (eTup (aCons (eC (.int 0)) (aCons (eVar 4) aNil))) (mSlot 2)))
 (sSeq (sSet 5 (eMake "Equations" "Equations.__init__" 5 false (aCons (eVar 0) (aCons (eVar 1) (aCons (eCall "group_of" 2 (aCons (eVar 0) (aCons (eVar 4) aNil))) (aCons (eVar 2) aNil))))))
 (sSeq (sSet 6 (eMeth "Equations" "settle" "Equations.settle" 3 (eVar 5) (aCons (eFz (oDic true)) (aCons (eC (.int 0)) aNil))))
 (sFor (iItems (eFld "nodes" (eVar 5))) (tgName 7)
 (sSeq (sItem (mSlot 2) (eVar 7) (eGet (mSlot 6) (eVar 7)))
 (sItem (mSlot 3) (eVar 7) (eFz (oLC (iItems (eSorted (hdl (eGet (hdl (eFld "met" (eVar 5))) (eVar 7))))) (tgName 8) (tTru (hdl (eCall "held" 2 (aCons (eGet (mSlot 6) (eVar 7)) (aCons (eVar 8) aNil))))) (eVar 8) [8])))))))
 sNext))
 (sRet (eVar 3)))))
def t_met_masks : Nat × Nat × M Fl := (2, 9, m_met_masks)
def m_paper : M Fl :=
 (sRet (eMeth "Drawing" "paper" "Drawing.paper" 1 (eMake "Drawing" "Drawing.__init__" 3 false (aCons (eVar 0) (aCons (eVar 1) aNil))) aNil))
def t_paper : Nat × Nat × M Fl := (2, 2, m_paper)
def m_book : M Fl :=
 (sRet (eTup (aCons (eCall "paper" 2 (aCons (eVar 0) (aCons (eC (.int 0)) aNil))) (aCons (eCall "paper" 2 (aCons (eVar 0) (aCons (eC (.int 1)) aNil))) aNil))))
def t_book : Nat × Nat × M Fl := (1, 1, m_book)
def m_is_row : M Fl :=
 (sRet (eAnd (eIsi "tuple" (eVar 0)) (eOr (eCop .isN (eVar 1) (eC .non)) (eCop .eq (eLen (mSlot 0)) (eVar 1)))))
def t_is_row : Nat × Nat × M Fl := (2, 2, m_is_row)
def m_claim_fits : M Fl :=
 (sSeq (sIf (tNot' (tTru (hdl (eCall "is_row" 2 (aCons (eVar 1) (aCons (eC .non) aNil))))))
 (sRet (eC (.bl false)))
 sNext)
 (sSeq (sSet 2 (eCall "ranks_there" 1 (aCons (eVar 0) aNil)))
 (sSeq (sFor (iEnumU (eVar 1)) (tgTup 2 (tgsCons (tgName 3) (tgsCons (tgName 4) tgsNil)))
 (sSeq (sIf (tOr' (tNot' (tTru (hdl (eCall "is_row" 2 (aCons (eVar 4) (aCons (eC (.int 2)) aNil)))))) (tOr' (tNot' (tTru (hdl (eCall "is_number" 2 (aCons (eGet (mSlot 4) (eC (.int 0))) (aCons (eBop .sub (eLen (hdl (eFld "sides" (eVar 0)))) (eC (.int 1))) aNil)))))) (tNot' (tTru (hdl (eCall "is_number" 2 (aCons (eGet (mSlot 4) (eC (.int 1))) (aCons (eC (.int 2)) aNil))))))))
 (sRet (eC (.bl false)))
 sNext)
 (sIf (tOr' (tV (eMem true (eGet (mSlot 4) (eC (.int 1))) (mSlot 2))) (tAnd' (tV (eCop .gt (eVar 3) (eC (.int 0)))) (tNot' (tV (eCop .lt (eGet (mSlot 1) (eBop .sub (eVar 3) (eC (.int 1)))) (eVar 4))))))
 (sRet (eC (.bl false)))
 sNext)))
 (sRet (eC (.bl true))))))
def t_claim_fits : Nat × Nat × M Fl := (2, 5, m_claim_fits)
def m_head_fits : M Fl :=
 (sSeq (sIf (tOr' (tNot' (tTru (hdl (eCall "is_row" 2 (aCons (eVar 1) (aCons (eC (.int 4)) aNil)))))) (tNot' (tTru (hdl (eCall "is_number" 2 (aCons (eGet (mSlot 1) (eC (.int 0))) (aCons (eBop .sub (eLen (hdl (eFld "sides" (eVar 0)))) (eC (.int 1))) aNil)))))))
 (sRet (eC (.bl false)))
 sNext)
 (sSeq (sIf (tNot' (tTru (hdl (eCall "is_number" 2 (aCons (eGet (mSlot 1) (eC (.int 1))) (aCons (eBop .sub (eFld "letters" (eVar 0)) (eC (.int 1))) aNil))))))
 (sRet (eC (.bl false)))
 sNext)
 (sRet (eAnd (eCall "claim_fits" 2 (aCons (eVar 0) (aCons (eGet (mSlot 1) (eC (.int 2))) aNil))) (eCall "is_row" 2 (aCons (eGet (mSlot 1) (eC (.int 3))) (aCons (eC .non) aNil)))))))
def t_head_fits : Nat × Nat × M Fl := (2, 2, m_head_fits)
def m_judge : M Fl :=
 (sRet (eMeth "Judge" "fault" "Judge.fault" 1 (eMake "Judge" "Judge.__init__" 4 false (aCons (eVar 0) (aCons (eVar 1) (aCons (eVar 2) aNil)))) aNil))
def t_judge : Nat × Nat × M Fl := (3, 3, m_judge)
def m_shown_on : M Fl :=
 (sSeq (sOwn 4 (oLst aNil))
 (sSeq (sFor (iRange (aCons (eLen (hdl (eFld "sides" (eVar 0)))) aNil)) (tgName 5)
 (sFor (iItems (eVar 1)) (tgName 6)
 (sIf (tAnd' (tV (eCop .eq (eSl (mSlot 6) pNone (pSome (eC (.int 2)))) (eTup (aCons (eVar 5) (aCons (eVar 3) aNil))))) (tV (eMem true (eVar 5) (mSlot 4))))
 (sIf (tV (eMem true (eC (.bl false)) (hdl (eFz (oLC (iItems (eGet (mSlot 6) (eC (.int 2)))) (tgName 7) (ret true) (eMem false (eGet (mSlot 7) (eC (.int 0))) (mSlot 2)) [7])))))
 (sExpr (eApp (mSlot 4) (eVar 5)))
 sNext)
 sNext)))
 (sRet (eTupleOf (mSlot 4)))))
def t_shown_on : Nat × Nat × M Fl := (4, 8, m_shown_on)
def m_shown_first : M Fl :=
 (sRet (eTupleOf (hdl (eFz (oLC (iEnumU (eFld "ends" (eVar 0))) (tgTup 2 (tgsCons (tgName 2) (tgsCons (tgName 3) tgsNil))) (tV (eCop .eq (eVar 3) (eVar 1))) (eVar 2) [2, 3])))))
def t_shown_first : Nat × Nat × M Fl := (2, 4, m_shown_first)
def m_shown : M Fl :=
 (sSeq (sSet 4 (eCall "shown_first" 2 (aCons (eVar 0) (aCons (eVar 1) aNil))))
 (sSeq (sFor (iRevU (eVar 3)) (tgName 5)
 (sSet 4 (eCall "shown_on" 4 (aCons (eVar 0) (aCons (eVar 2) (aCons (eVar 4) (aCons (eVar 5) aNil)))))))
 (sRet (eVar 4))))
def t_shown : Nat × Nat × M Fl := (4, 6, m_shown)
def m_Game___init__ : M Fl :=
 (sSeq (sFldS "Game" "owners" (eVar 0) (eFz (oLst aNil)))
 (sSeq (sFldS "Game" "priorities" (eVar 0) (eFz (oLst aNil)))
 (sFldS "Game" "ways" (eVar 0) (eFz (oLst aNil)))))
def t_Game___init__ : Nat × Nat × M Fl := (1, 1, m_Game___init__)
def m_Game_vertex : M Fl :=
 (sSeq (sExpr (eApp (hdl (eFld "owners" (eVar 0))) (eVar 1)))
 (sSeq (sExpr (eApp (hdl (eFld "priorities" (eVar 0))) (eVar 2)))
 (sSeq (sExpr (eApp (hdl (eFld "ways" (eVar 0))) (eFz (oLst aNil))))
 (sRet (eBop .sub (eLen (hdl (eFld "owners" (eVar 0)))) (eC (.int 1)))))))
def t_Game_vertex : Nat × Nat × M Fl := (3, 3, m_Game_vertex)
def m_Game_none : M Fl :=
 (sRet (eFz (oLC (iItems (eFld "owners" (eVar 0))) (tgName 1) (ret true) (eC (.bl false)) [1])))
def t_Game_none : Nat × Nat × M Fl := (1, 2, m_Game_none)
def m_Game_behind : M Fl :=
 (sSeq (sOwn 1 (oLC (iItems (eFld "owners" (eVar 0))) (tgName 2) (ret true) (eFz (oLst aNil)) [2]))
 (sSeq (sFor (iEnumU (eFld "ways" (eVar 0))) (tgTup 2 (tgsCons (tgName 3) (tgsCons (tgName 4) tgsNil)))
 (sFor (iItems (eVar 4)) (tgName 5)
 (sExpr (eApp (hdl (eGet (mSlot 1) (eVar 5))) (eVar 3)))))
 (sRet (eVar 1))))
def t_Game_behind : Nat × Nat × M Fl := (1, 6, m_Game_behind)
def m_Solver___init__ : M Fl :=
 (sSeq (sFldS "Solver" "game" (eVar 0) (eVar 1))
 (sSeq (sFldS "Solver" "side" (eVar 0) (eVar 2))
 (sSeq (sFldS "Solver" "behind" (eVar 0) (eMeth "Game" "behind" "Game.behind" 1 (eVar 1) aNil))
 (sFldS "Solver" "choice" (eVar 0) (eFz (oLC (iItems (eFld "owners" (eVar 1))) (tgName 3) (ret true) (eC (.int 0)) [3]))))))
def t_Solver___init__ : Nat × Nat × M Fl := (3, 4, m_Solver___init__)
def m_Solver_pulled : M Fl :=
 (sSeq (sOwn 4 (oLC (iRange (aCons (eLen (mSlot 3)) aNil)) (tgName 5) (ret true) (eGet (mSlot 3) (eVar 5)) [5]))
 (sSeq (sOwn 6 (oLC (iItems (eFld "ways" (eFld "game" (eVar 0)))) (tgName 7) (ret true) (eLen (hdl (eFz (oLC (iItems (eVar 7)) (tgName 8) (tTru (hdl (eGet (mSlot 1) (eVar 8)))) (eVar 8) [8])))) [7]))
 (sSeq (sOwn 9 (oLC (iRange (aCons (eLen (mSlot 3)) aNil)) (tgName 5) (tTru (hdl (eGet (mSlot 3) (eVar 5)))) (eVar 5) [5]))
 (sSeq (sWhile (tTru (mSlot 9))
 (sSeq (sSet 10 (ePop (mSlot 9)))
 (sFor (iItems (eGet (hdl (eFld "behind" (eVar 0))) (eVar 10))) (tgName 5)
 (sIf (tAnd' (tTru (hdl (eGet (mSlot 1) (eVar 5)))) (tNot' (tTru (hdl (eGet (mSlot 4) (eVar 5))))))
 (sSeq (sItem (mSlot 6) (eVar 5) (eBop .sub (eGet (mSlot 6) (eVar 5)) (eC (.int 1))))
 (sIf (tV (eCop .eq (eGet (hdl (eFld "owners" (eFld "game" (eVar 0)))) (eVar 5)) (eVar 2)))
 (sSeq (sItem (mSlot 4) (eVar 5) (eC (.bl true)))
 (sSeq (sExpr (eMeth "Solver" "choose" "Solver.choose" 3 (eVar 0) (aCons (eVar 5) (aCons (eVar 10) aNil))))
 (sExpr (eApp (mSlot 9) (eVar 5)))))
 (sIf (tV (eCop .eq (eGet (mSlot 6) (eVar 5)) (eC (.int 0))))
 (sSeq (sItem (mSlot 4) (eVar 5) (eC (.bl true)))
 (sExpr (eApp (mSlot 9) (eVar 5))))
 sNext)))
 sNext))))
 (sRet (eVar 4))))))
def t_Solver_pulled : Nat × Nat × M Fl := (4, 11, m_Solver_pulled)
def m_Solver_choose : M Fl :=
 (sIf (tV (eCop .eq (eGet (hdl (eFld "owners" (eFld "game" (eVar 0)))) (eVar 1)) (eFld "side" (eVar 0))))
 (sItem (hdl (eFld "choice" (eVar 0))) (eVar 1) (eVar 2))
 sNext)
def t_Solver_choose : Nat × Nat × M Fl := (3, 3, m_Solver_choose)
def m_Solver_stay : M Fl :=
 (sFor (iRange (aCons (eLen (mSlot 2)) aNil)) (tgName 3)
 (sIf (tAnd' (tTru (hdl (eGet (mSlot 2) (eVar 3)))) (tV (eCop .eq (eGet (hdl (eFld "owners" (eFld "game" (eVar 0)))) (eVar 3)) (eFld "side" (eVar 0)))))
 (sFor (iItems (eGet (hdl (eFld "ways" (eFld "game" (eVar 0)))) (eVar 3))) (tgName 4)
 (sIf (tTru (hdl (eGet (mSlot 1) (eVar 4))))
 (sItem (hdl (eFld "choice" (eVar 0))) (eVar 3) (eVar 4))
 sNext))
 sNext))
def t_Solver_stay : Nat × Nat × M Fl := (3, 5, m_Solver_stay)
def m_Solver_solve : M Fl :=
 (sSeq (sOwn 2 (oLC (iRange (aCons (eLen (mSlot 1)) aNil)) (tgName 3) (tTru (hdl (eGet (mSlot 1) (eVar 3)))) (eVar 3) [3]))
 (sSeq (sIf (tNot' (tTru (mSlot 2)))
 (sRet (eMeth "Game" "none" "Game.none" 1 (eFld "game" (eVar 0)) aNil))
 sNext)
 (sSeq fail
 (sSeq (sSet 5 (eBop .mod (eVar 4) (eC (.int 2))))
 (sSeq (sOwn 6 (oLC (iRange (aCons (eLen (mSlot 1)) aNil)) (tgName 7) (ret true) (eAnd (eGet (mSlot 1) (eVar 7)) (eCop .eq (eGet (hdl (eFld "priorities" (eFld "game" (eVar 0)))) (eVar 7)) (eVar 4))) [7]))
 (sSeq (sSet 8 (eMeth "Solver" "pulled" "Solver.pulled" 4 (eVar 0) (aCons (eVar 1) (aCons (eVar 5) (aCons (eVar 6) aNil)))))
 (sSeq (sOwn 9 (oLC (iRange (aCons (eLen (mSlot 1)) aNil)) (tgName 7) (ret true) (eAnd (eGet (mSlot 1) (eVar 7)) (eNot (eGet (mSlot 8) (eVar 7)))) [7]))
 (sSeq (sSet 10 (eMeth "Solver" "solve" "Solver.solve" 2 (eVar 0) (aCons (eVar 9) aNil)))
 (sSeq (sIf (tV (eCop .eq (eVar 5) (eFld "side" (eVar 0))))
 (sOwn 11 (oLC (iRange (aCons (eLen (mSlot 1)) aNil)) (tgName 7) (ret true) (eAnd (eGet (mSlot 9) (eVar 7)) (eNot (eGet (mSlot 10) (eVar 7)))) [7]))
 (sOwn 11 (oLC (iRange (aCons (eLen (mSlot 1)) aNil)) (tgName 7) (ret true) (eAnd (eGet (mSlot 9) (eVar 7)) (eGet (mSlot 10) (eVar 7))) [7])))
 (sSeq (sIf (tV (eMem true (eC (.bl true)) (mSlot 11)))
 (sRet (eMeth "Solver" "all_to" "Solver.all_to" 4 (eVar 0) (aCons (eVar 1) (aCons (eVar 6) (aCons (eVar 5) aNil)))))
 sNext)
 (sRet (eMeth "Solver" "parted" "Solver.parted" 4 (eVar 0) (aCons (eVar 1) (aCons (eVar 11) (aCons (eBop .sub (eC (.int 1)) (eVar 5)) aNil)))))))))))))))
def t_Solver_solve : Nat × Nat × M Fl := (2, 12, m_Solver_solve)
def m_Solver_all_to : M Fl :=
 (sSeq (sIf (tV (eCop .ne (eVar 3) (eFld "side" (eVar 0))))
 (sRet (eMeth "Game" "none" "Game.none" 1 (eFld "game" (eVar 0)) aNil))
 sNext)
 (sSeq (sExpr (eMeth "Solver" "stay" "Solver.stay" 3 (eVar 0) (aCons (eVar 1) (aCons (eVar 2) aNil))))
 (sRet (eFz (oLC (iRange (aCons (eLen (mSlot 1)) aNil)) (tgName 4) (ret true) (eGet (mSlot 1) (eVar 4)) [4])))))
def t_Solver_all_to : Nat × Nat × M Fl := (4, 5, m_Solver_all_to)
def m_Solver_parted : M Fl :=
 (sSeq (sSet 4 (eMeth "Solver" "pulled" "Solver.pulled" 4 (eVar 0) (aCons (eVar 1) (aCons (eVar 3) (aCons (eVar 2) aNil)))))
 (sSeq (sOwn 5 (oLC (iRange (aCons (eLen (mSlot 1)) aNil)) (tgName 6) (ret true) (eAnd (eGet (mSlot 1) (eVar 6)) (eNot (eGet (mSlot 4) (eVar 6)))) [6]))
 (sSeq (sSet 7 (eMeth "Solver" "solve" "Solver.solve" 2 (eVar 0) (aCons (eVar 5) aNil)))
 (sSeq (sIf (tV (eCop .eq (eVar 3) (eFld "side" (eVar 0))))
 (sRet (eFz (oLC (iRange (aCons (eLen (mSlot 1)) aNil)) (tgName 6) (ret true) (eOr (eGet (mSlot 4) (eVar 6)) (eGet (mSlot 7) (eVar 6))) [6])))
 sNext)
 (sRet (eVar 7))))))
def t_Solver_parted : Nat × Nat × M Fl := (4, 8, m_Solver_parted)
def m_Drawing___init__ : M Fl :=
 (sSeq (sFldS "Drawing" "duel" (eVar 0) (eVar 1))
 (sSeq (sFldS "Drawing" "side" (eVar 0) (eVar 2))
 (sSeq (sSet 3 (eCall "met_masks" 2 (aCons (eVar 1) (aCons (eVar 2) aNil))))
 (sSeq (sFldS "Drawing" "entries" (eVar 0) (eFz (oLC2 (iItems (eSorted (mSlot 3))) (tgName 4) (ret true) (iItems (eGet (mSlot 3) (eVar 4))) (tgName 5) (ret true) (eTup (aCons (eVar 4) (aCons (eVar 5) aNil))) [4, 5] [5])))
 (sSeq fail
 (sSeq (sFldS "Drawing" "won" (eVar 0) (eMeth "Game" "vertex" "Game.vertex" 3 (eFld "game" (eVar 0)) (aCons (eVar 2) (aCons (eVar 2) aNil))))
 (sSeq (sExpr (eApp (hdl (eGet (hdl (eFld "ways" (eFld "game" (eVar 0)))) (eFld "won" (eVar 0)))) (eFld "won" (eVar 0))))
 (sSeq (sFldS "Drawing" "lost" (eVar 0) (eMeth "Game" "vertex" "Game.vertex" 3 (eFld "game" (eVar 0)) (aCons (eVar 2) (aCons (eBop .sub (eC (.int 1)) (eVar 2)) aNil))))
 (sSeq (sExpr (eApp (hdl (eGet (hdl (eFld "ways" (eFld "game" (eVar 0)))) (eFld "lost" (eVar 0)))) (eFld "lost" (eVar 0))))
 (sSeq (sFldS "Drawing" "at" (eVar 0) (eFz (oLC (iItems (eFld "entries" (eVar 0))) (tgTup 2 (tgsCons (tgName 4) (tgsCons (tgName 5) tgsNil))) (ret true) (eMeth "Game" "vertex" "Game.vertex" 3 (eFld "game" (eVar 0)) (aCons (eMeth "Drawing" "owner" "Drawing.owner" 2 (eVar 0) (aCons (eVar 4) aNil)) (aCons (eC (.int 3)) aNil))) [4, 5])))
 (sSeq (sFldS "Drawing" "doors" (eVar 0) (eFz (oDic true)))
 (sSeq (sFldS "Drawing" "returns" (eVar 0) (eFz (oDic true)))
 (sSeq (sFldS "Drawing" "told" (eVar 0) (eFz (oDic true)))
 (sSeq (sFldS "Drawing" "chosen" (eVar 0) (eFz (oDic true)))
 (sFor (iRange (aCons (eLen (hdl (eFld "entries" (eVar 0)))) aNil)) (tgName 6)
 (sExpr (eMeth "Drawing" "draw" "Drawing.draw" 2 (eVar 0) (aCons (eVar 6) aNil))))))))))))))))))
def t_Drawing___init__ : Nat × Nat × M Fl := (3, 7, m_Drawing___init__)
def m_Drawing_owner : M Fl :=
 (sRet (eGet (hdl (eFld "sides" (eFld "duel" (eVar 0)))) (eGet (mSlot 1) (eC (.int 0)))))
def t_Drawing_owner : Nat × Nat × M Fl := (2, 2, m_Drawing_owner)
def m_Drawing_door : M Fl :=
 (sSeq (sSet 3 (eTup (aCons (eVar 1) (aCons (eVar 2) aNil))))
 (sSeq (sIf (tV (eMem true (eVar 3) (hdl (eFld "doors" (eVar 0)))))
 (sSeq (sSet 4 (eMeth "Game" "vertex" "Game.vertex" 3 (eFld "game" (eVar 0)) (aCons (eFld "side" (eVar 0)) (aCons (eVar 2) aNil))))
 (sSeq (sExpr (eApp (hdl (eGet (hdl (eFld "ways" (eFld "game" (eVar 0)))) (eVar 4))) (eGet (hdl (eFld "at" (eVar 0))) (eVar 1))))
 (sItem (hdl (eFld "doors" (eVar 0))) (eVar 3) (eVar 4))))
 sNext)
 (sRet (eGet (hdl (eFld "doors" (eVar 0))) (eVar 3)))))
def t_Drawing_door : Nat × Nat × M Fl := (3, 5, m_Drawing_door)
def m_Drawing_fitting : M Fl :=
 (sSeq (sOwn 4 (oLst aNil))
 (sSeq (sFor (iEnumU (eFld "entries" (eVar 0))) (tgTup 2 (tgsCons (tgName 5) (tgsCons (tgName 6) tgsNil)))
 (sIf (tAnd' (tV (eCop .eq (eGet (mSlot 6) (eC (.int 0))) (eVar 1))) (tTru (hdl (eCall "within" 2 (aCons (eCall "low" 2 (aCons (eGet (mSlot 6) (eC (.int 1))) (aCons (eVar 2) aNil))) (aCons (eVar 3) aNil))))))
 (sExpr (eApp (mSlot 4) (eVar 5)))
 sNext))
 (sRet (eVar 4))))
def t_Drawing_fitting : Nat × Nat × M Fl := (4, 7, m_Drawing_fitting)
def m_Drawing_back : M Fl :=
 (sSeq (sSet 4 (eTup (aCons (eVar 1) (aCons (eVar 2) (aCons (eVar 3) aNil)))))
 (sSeq (sIf (tV (eMem true (eVar 4) (hdl (eFld "returns" (eVar 0)))))
 (sSeq (sSet 5 (eMeth "Drawing" "fitting" "Drawing.fitting" 4 (eVar 0) (aCons (eVar 1) (aCons (eVar 2) (aCons (eVar 3) aNil)))))
 (sSeq (sSet 6 (eC .non))
 (sSeq (sIf (tTru (mSlot 5))
 (sSeq (sSet 6 (eMeth "Game" "vertex" "Game.vertex" 3 (eFld "game" (eVar 0)) (aCons (eFld "side" (eVar 0)) (aCons (eC (.int 3)) aNil))))
 (sItem (hdl (eFld "ways" (eFld "game" (eVar 0)))) (eVar 6) (eFz (oLC (iItems (eVar 5)) (tgName 7) (ret true) (eMeth "Drawing" "door" "Drawing.door" 3 (eVar 0) (aCons (eVar 7) (aCons (eVar 2) aNil))) [7]))))
 sNext)
 (sItem (hdl (eFld "returns" (eVar 0))) (eVar 4) (eVar 6)))))
 sNext)
 (sRet (eGet (hdl (eFld "returns" (eVar 0))) (eVar 4)))))
def t_Drawing_back : Nat × Nat × M Fl := (4, 8, m_Drawing_back)
def m_Drawing_push_ways : M Fl :=
 (sSeq (sSet 5 (eGet (hdl (eFld "ranks" (eFld "duel" (eVar 0)))) (eVar 2)))
 (sSeq (sOwn 6 (oLst aNil))
 (sSeq (sFor (iEnumU (eFld "entries" (eVar 0))) (tgTup 2 (tgsCons (tgName 7) (tgsCons (tgName 8) tgsNil)))
 (sIf (tV (eCop .eq (eGet (mSlot 8) (eC (.int 0))) (eTup (aCons (eVar 2) (aCons (eGet (mSlot 3) (eC (.int 0))) aNil)))))
 (sSeq (sOwn 9 (oLC (iItems (eCall "pairs_of" 1 (aCons (eCall "low" 2 (aCons (eGet (mSlot 8) (eC (.int 1))) (aCons (eVar 5) aNil))) aNil))) (tgTup 2 (tgsCons (tgName 10) (tgsCons (tgName 11) tgsNil))) (ret true) (eTup (aCons (eVar 10) (aCons (eVar 11) (aCons (eMeth "Drawing" "back" "Drawing.back" 4 (eVar 0) (aCons (eTup (aCons (eVar 10) (aCons (eGet (mSlot 3) (eC (.int 1))) aNil))) (aCons (eVar 11) (aCons (eVar 4) aNil)))) aNil)))) [10, 11]))
 (sIf (tV (eMem true (eC .non) (hdl (eFz (oLC (iItems (eVar 9)) (tgName 12) (ret true) (eGet (mSlot 12) (eC (.int 2))) [12])))))
 (sSeq (sSet 13 (eMeth "Game" "vertex" "Game.vertex" 3 (eFld "game" (eVar 0)) (aCons (eBop .sub (eC (.int 1)) (eFld "side" (eVar 0))) (aCons (eC (.int 3)) aNil))))
 (sSeq (sItem (hdl (eFld "ways" (eFld "game" (eVar 0)))) (eVar 13) (eBop .add (eFz (oLst (aCons (eMeth "Drawing" "door" "Drawing.door" 3 (eVar 0) (aCons (eVar 7) (aCons (eVar 5) aNil))) aNil))) (eFz (oLC (iItems (eVar 9)) (tgName 12) (ret true) (eGet (mSlot 12) (eC (.int 2))) [12]))))
 (sSeq (sItem (hdl (eFld "told" (eVar 0))) (eVar 13) (eTup (aCons (eC (.str "push")) (aCons (eVar 1) (aCons (eVar 7) (aCons (eVar 9) aNil))))))
 (sExpr (eApp (mSlot 6) (eVar 13))))))
 sNext))
 sNext))
 (sRet (eVar 6)))))
def t_Drawing_push_ways : Nat × Nat × M Fl := (5, 14, m_Drawing_push_ways)
def m_Drawing_ways : M Fl :=
 (sSeq (sAsgT (eVar 2) (tgTup 2 (tgsCons (tgName 4) (tgsCons (tgName 5) tgsNil))))
 (sSeq (sSet 6 (eGet (hdl (eFld "ranks" (eFld "duel" (eVar 0)))) (eVar 4)))
 (sSeq (sIf (tV (eCop .eq (eLen (mSlot 5)) (eC (.int 2))))
 (sRet (eMeth "Drawing" "push_ways" "Drawing.push_ways" 5 (eVar 0) (aCons (eVar 1) (aCons (eVar 4) (aCons (eVar 5) (aCons (eVar 3) aNil))))))
 sNext)
 (sSeq (sOwn 7 (oLst aNil))
 (sSeq (sIf (tAnd' (tV (eCop .eq (eLen (mSlot 5)) (eC (.int 0)))) (tTru (hdl (eCall "within" 2 (aCons (eCall "bit" 2 (aCons (eVar 4) (aCons (eVar 6) aNil))) (aCons (eVar 3) aNil))))))
 (sSeq (sSet 8 (eMeth "Game" "vertex" "Game.vertex" 3 (eFld "game" (eVar 0)) (aCons (eFld "side" (eVar 0)) (aCons (eC (.int 3)) aNil))))
 (sSeq (sExpr (eApp (hdl (eGet (hdl (eFld "ways" (eFld "game" (eVar 0)))) (eVar 8))) (eFld "won" (eVar 0))))
 (sSeq (sItem (hdl (eFld "told" (eVar 0))) (eVar 8) (eTup (aCons (eC (.str "pop")) (aCons (eVar 1) aNil))))
 (sExpr (eApp (mSlot 7) (eVar 8))))))
 sNext)
 (sSeq (sIf (tV (eCop .eq (eLen (mSlot 5)) (eC (.int 1))))
 (sFor (iItems (eMeth "Drawing" "fitting" "Drawing.fitting" 4 (eVar 0) (aCons (eTup (aCons (eVar 4) (aCons (eGet (mSlot 5) (eC (.int 0))) aNil))) (aCons (eVar 6) (aCons (eVar 3) aNil))))) (tgName 9)
 (sSeq (sSet 8 (eMeth "Game" "vertex" "Game.vertex" 3 (eFld "game" (eVar 0)) (aCons (eFld "side" (eVar 0)) (aCons (eC (.int 3)) aNil))))
 (sSeq (sExpr (eApp (hdl (eGet (hdl (eFld "ways" (eFld "game" (eVar 0)))) (eVar 8))) (eMeth "Drawing" "door" "Drawing.door" 3 (eVar 0) (aCons (eVar 9) (aCons (eVar 6) aNil)))))
 (sSeq (sItem (hdl (eFld "told" (eVar 0))) (eVar 8) (eTup (aCons (eC (.str "change")) (aCons (eVar 1) (aCons (eVar 9) aNil)))))
 (sExpr (eApp (mSlot 7) (eVar 8)))))))
 sNext)
 (sRet (eVar 7))))))))
def t_Drawing_ways : Nat × Nat × M Fl := (4, 10, m_Drawing_ways)
def m_Drawing_draw : M Fl :=
 (sSeq (sAsgT (eGet (hdl (eFld "entries" (eVar 0))) (eVar 1)) (tgTup 2 (tgsCons (tgName 2) (tgsCons (tgName 3) tgsNil))))
 (sSeq (sSet 4 (eMeth "Duel" "row" "Duel.row" 3 (eFld "duel" (eVar 0)) (aCons (eGet (mSlot 2) (eC (.int 0))) (aCons (eGet (mSlot 2) (eC (.int 1))) aNil))))
 (sSeq (sSet 5 (eGet (hdl (eFld "at" (eVar 0))) (eVar 1)))
 (sSeq (sIf (tV (eCop .eq (eMeth "Drawing" "owner" "Drawing.owner" 2 (eVar 0) (aCons (eVar 2) aNil)) (eFld "side" (eVar 0))))
 (sSeq (sFor (iEnumU (eVar 4)) (tgTup 2 (tgsCons (tgName 6) (tgsCons (tgName 7) tgsNil)))
 (sFor (iItems (eMeth "Drawing" "ways" "Drawing.ways" 4 (eVar 0) (aCons (eVar 6) (aCons (eVar 7) (aCons (eVar 3) aNil))))) (tgName 8)
 (sExpr (eApp (hdl (eGet (hdl (eFld "ways" (eFld "game" (eVar 0)))) (eVar 5))) (eVar 8)))))
 (sSeq (sIf (tNot' (tTru (hdl (eGet (hdl (eFld "ways" (eFld "game" (eVar 0)))) (eVar 5)))))
 (sExpr (eApp (hdl (eGet (hdl (eFld "ways" (eFld "game" (eVar 0)))) (eVar 5))) (eFld "lost" (eVar 0))))
 sNext)
 sRetN))
 sNext)
 (sSeq (sIf (tNot' (tTru (mSlot 4)))
 (sExpr (eApp (hdl (eGet (hdl (eFld "ways" (eFld "game" (eVar 0)))) (eVar 5))) (eFld "won" (eVar 0))))
 sNext)
 (sFor (iEnumU (eVar 4)) (tgTup 2 (tgsCons (tgName 6) (tgsCons (tgName 7) tgsNil)))
 (sSeq (sSet 8 (eMeth "Game" "vertex" "Game.vertex" 3 (eFld "game" (eVar 0)) (aCons (eFld "side" (eVar 0)) (aCons (eC (.int 3)) aNil))))
 (sSeq (sItem (hdl (eFld "ways" (eFld "game" (eVar 0)))) (eVar 8) (eBop .add (eMeth "Drawing" "ways" "Drawing.ways" 4 (eVar 0) (aCons (eVar 6) (aCons (eVar 7) (aCons (eVar 3) aNil)))) (eFz (oLst (aCons (eFld "lost" (eVar 0)) aNil)))))
 (sSeq (sItem (hdl (eFld "chosen" (eVar 0))) (eTup (aCons (eVar 5) (aCons (eVar 6) aNil))) (eVar 8))
 (sExpr (eApp (hdl (eGet (hdl (eFld "ways" (eFld "game" (eVar 0)))) (eVar 5))) (eVar 8))))))))))))
def t_Drawing_draw : Nat × Nat × M Fl := (2, 9, m_Drawing_draw)
def m_Drawing_answer : M Fl :=
 (sSeq (sSet 4 (eGet (hdl (eFld "told" (eVar 0))) (eVar 2)))
 (sSeq (sIf (tV (eCop .eq (eGet (mSlot 4) (eC (.int 0))) (eC (.str "pop"))))
 (sRet (eVar 4))
 sNext)
 (sSeq (sIf (tV (eCop .eq (eGet (mSlot 4) (eC (.int 0))) (eC (.str "change"))))
 (sRet (eTup (aCons (eC (.str "change")) (aCons (eGet (mSlot 4) (eC (.int 1))) (aCons (eGet (mSlot 3) (eGet (mSlot 4) (eC (.int 2)))) aNil)))))
 sNext)
 (sSeq (sOwn 5 (oLst aNil))
 (sSeq (sFor (iItems (eGet (mSlot 4) (eC (.int 3)))) (tgTup 3 (tgsCons (tgName 6) (tgsCons (tgName 7) (tgsCons (tgName 8) tgsNil))))
 (sExpr (eApp (mSlot 5) (eTup (aCons (eVar 6) (aCons (eVar 7) (aCons (eGet (mSlot 3) (eMeth "Drawing" "entry_of" "Drawing.entry_of" 2 (eVar 0) (aCons (eGet (hdl (eFld "choice" (eVar 1))) (eVar 8)) aNil))) aNil)))))))
 (sRet (eTup (aCons (eC (.str "push")) (aCons (eGet (mSlot 4) (eC (.int 1))) (aCons (eGet (mSlot 3) (eGet (mSlot 4) (eC (.int 2)))) (aCons (eTupleOf (mSlot 5)) aNil)))))))))))
def t_Drawing_answer : Nat × Nat × M Fl := (4, 9, m_Drawing_answer)
def m_Drawing_entry_of : M Fl :=
 (sRet (eIndex (hdl (eFld "at" (eVar 0))) (eGet (hdl (eGet (hdl (eFld "ways" (eFld "game" (eVar 0)))) (eVar 1))) (eC (.int 0)))))
def t_Drawing_entry_of : Nat × Nat × M Fl := (2, 2, m_Drawing_entry_of)
def m_Drawing_answers : M Fl :=
 (sSeq (sSet 4 (eGet (hdl (eGet (hdl (eFld "entries" (eVar 0))) (eVar 2))) (eC (.int 0))))
 (sSeq (sSet 5 (eGet (hdl (eFld "at" (eVar 0))) (eVar 2)))
 (sSeq (sIf (tV (eCop .eq (eMeth "Drawing" "owner" "Drawing.owner" 2 (eVar 0) (aCons (eVar 4) aNil)) (eFld "side" (eVar 0))))
 (sRet (eTup (aCons (eMeth "Drawing" "answer" "Drawing.answer" 4 (eVar 0) (aCons (eVar 1) (aCons (eGet (hdl (eFld "choice" (eVar 1))) (eVar 5)) (aCons (eVar 3) aNil)))) aNil)))
 sNext)
 (sSeq (sSet 6 (eMeth "Duel" "row" "Duel.row" 3 (eFld "duel" (eVar 0)) (aCons (eGet (mSlot 4) (eC (.int 0))) (aCons (eGet (mSlot 4) (eC (.int 1))) aNil))))
 (sSeq (sOwn 7 (oLC (iRange (aCons (eLen (mSlot 6)) aNil)) (tgName 8) (ret true) (eGet (hdl (eFld "chosen" (eVar 0))) (eTup (aCons (eVar 5) (aCons (eVar 8) aNil)))) [8]))
 (sRet (eTupleOf (hdl (eFz (oLC (iItems (eVar 7)) (tgName 9) (ret true) (eMeth "Drawing" "answer" "Drawing.answer" 4 (eVar 0) (aCons (eVar 1) (aCons (eGet (hdl (eFld "choice" (eVar 1))) (eVar 9)) (aCons (eVar 3) aNil)))) [9]))))))))))
def t_Drawing_answers : Nat × Nat × M Fl := (4, 10, m_Drawing_answers)
def m_Drawing_paper : M Fl :=
 (sSeq (sSet 1 (eMake "Solver" "Solver.__init__" 3 false (aCons (eFld "game" (eVar 0)) (aCons (eFld "side" (eVar 0)) aNil))))
 (sSeq (sSet 2 (eMeth "Solver" "solve" "Solver.solve" 2 (eVar 1) (aCons (eFz (oLC (iItems (eFld "owners" (eFld "game" (eVar 0)))) (tgName 3) (ret true) (eC (.bl true)) [3])) aNil)))
 (sSeq (sOwn 4 (oLC (iRange (aCons (eLen (hdl (eFld "entries" (eVar 0)))) aNil)) (tgName 5) (tTru (hdl (eGet (mSlot 2) (eGet (hdl (eFld "at" (eVar 0))) (eVar 5))))) (eVar 5) [5]))
 (sSeq (sOwn 6 (oDC true (iEnumU (eVar 4)) (tgTup 2 (tgsCons (tgName 7) (tgsCons (tgName 5) tgsNil))) (ret true) (eVar 5) (eVar 7) [7, 5]))
 (sSeq (sOwn 8 (oLst aNil))
 (sSeq (sFor (iItems (eVar 4)) (tgName 5)
 (sSeq (sAsgT (eGet (hdl (eFld "entries" (eVar 0))) (eVar 5)) (tgTup 2 (tgsCons (tgName 9) (tgsCons (tgName 10) tgsNil))))
 (sExpr (eApp (mSlot 8) (eTup (aCons (eGet (mSlot 9) (eC (.int 0))) (aCons (eGet (mSlot 9) (eC (.int 1))) (aCons (eCall "pairs_of" 1 (aCons (eVar 10) aNil)) (aCons (eMeth "Drawing" "answers" "Drawing.answers" 4 (eVar 0) (aCons (eVar 1) (aCons (eVar 5) (aCons (eVar 6) aNil)))) aNil)))))))))
 (sRet (eTupleOf (mSlot 8)))))))))
def t_Drawing_paper : Nat × Nat × M Fl := (1, 11, m_Drawing_paper)
def m_Judge___init__ : M Fl :=
 (sSeq (sFldS "Judge" "duel" (eVar 0) (eVar 1))
 (sSeq (sFldS "Judge" "side" (eVar 0) (eVar 2))
 (sSeq (sFldS "Judge" "paper" (eVar 0) (eVar 3))
 (sSeq (sFldS "Judge" "heads" (eVar 0) (eFz (oLst aNil)))
 (sSeq (sFor (iItems (eVar 3)) (tgName 4)
 (sExpr (eApp (hdl (eFld "heads" (eVar 0))) (eAnd (eCall "head_fits" 2 (aCons (eVar 1) (aCons (eVar 4) aNil))) (eNot (eMeth "Judge" "is_double" "Judge.is_double" 2 (eVar 0) (aCons (eVar 4) aNil)))))))
 (sSeq (sFldS "Judge" "masks" (eVar 0) (eFz (oLC (iEnumU (eVar 3)) (tgTup 2 (tgsCons (tgName 5) (tgsCons (tgName 4) tgsNil))) (ret true) (eIf (tTru (hdl (eGet (hdl (eFld "heads" (eVar 0))) (eVar 5)))) (eCall "mask_of" 1 (aCons (eGet (mSlot 4) (eC (.int 2))) aNil)) (eC (.int 0))) [5, 4])))
 (sFldS "Judge" "steps" (eVar 0) (eFz (oLC (iItems (eVar 3)) (tgName 4) (ret true) (eFz (oLst aNil)) [4])))))))))
def t_Judge___init__ : Nat × Nat × M Fl := (4, 6, m_Judge___init__)
def m_Judge_is_double : M Fl :=
 (sSeq (sFor (iEnumU (eFld "heads" (eVar 0))) (tgTup 2 (tgsCons (tgName 2) (tgsCons (tgName 3) tgsNil)))
 (sIf (tAnd' (tTru (mSlot 3)) (tV (eCop .eq (eSl (hdl (eGet (hdl (eFld "paper" (eVar 0))) (eVar 2))) pNone (pSome (eC (.int 3)))) (eSl (mSlot 1) pNone (pSome (eC (.int 3)))))))
 (sRet (eC (.bl true)))
 sNext))
 (sRet (eC (.bl false))))
def t_Judge_is_double : Nat × Nat × M Fl := (2, 4, m_Judge_is_double)
def m_Judge_is_of : M Fl :=
 (sSeq (sIf (tOr' (tNot' (tTru (hdl (eCall "is_number" 2 (aCons (eVar 1) (aCons (eBop .sub (eLen (hdl (eFld "paper" (eVar 0)))) (eC (.int 1))) aNil)))))) (tNot' (tTru (hdl (eGet (hdl (eFld "heads" (eVar 0))) (eVar 1))))))
 (sRet (eC (.bl false)))
 sNext)
 (sRet (eCop .eq (eSl (hdl (eGet (hdl (eFld "paper" (eVar 0))) (eVar 1))) pNone (pSome (eC (.int 2)))) (eTup (aCons (eVar 2) (aCons (eVar 3) aNil))))))
def t_Judge_is_of : Nat × Nat × M Fl := (4, 4, m_Judge_is_of)
def m_Judge_change_fits : M Fl :=
 (sSeq (sAsgT (eVar 2) (tgTup 2 (tgsCons (tgName 4) (tgsCons (tgName 5) tgsNil))))
 (sSeq (sSet 6 (eGet (hdl (eFld "ranks" (eFld "duel" (eVar 0)))) (eVar 4)))
 (sSeq (sIf (tOr' (tNot' (tTru (hdl (eCall "is_row" 2 (aCons (eVar 3) (aCons (eC (.int 3)) aNil)))))) (tNot' (tTru (hdl (eMeth "Judge" "is_of" "Judge.is_of" 4 (eVar 0) (aCons (eGet (mSlot 3) (eC (.int 2))) (aCons (eVar 4) (aCons (eGet (mSlot 5) (eC (.int 0))) aNil))))))))
 (sRet (eC (.bl false)))
 sNext)
 (sSeq (sExpr (eApp (hdl (eGet (hdl (eFld "steps" (eVar 0))) (eVar 1))) (eTup (aCons (eGet (mSlot 3) (eC (.int 2))) (aCons (eVar 6) aNil)))))
 (sRet (eCall "within" 2 (aCons (eCall "low" 2 (aCons (eGet (hdl (eFld "masks" (eVar 0))) (eGet (mSlot 3) (eC (.int 2)))) (aCons (eVar 6) aNil))) (aCons (eGet (hdl (eFld "masks" (eVar 0))) (eVar 1)) aNil))))))))
def t_Judge_change_fits : Nat × Nat × M Fl := (4, 7, m_Judge_change_fits)
def m_Judge_push_fits : M Fl :=
 (sSeq (sAsgT (eVar 2) (tgTup 2 (tgsCons (tgName 4) (tgsCons (tgName 5) tgsNil))))
 (sSeq (sSet 6 (eGet (hdl (eFld "ranks" (eFld "duel" (eVar 0)))) (eVar 4)))
 (sSeq (sIf (tOr' (tNot' (tTru (hdl (eCall "is_row" 2 (aCons (eVar 3) (aCons (eC (.int 4)) aNil)))))) (tOr' (tNot' (tTru (hdl (eMeth "Judge" "is_of" "Judge.is_of" 4 (eVar 0) (aCons (eGet (mSlot 3) (eC (.int 2))) (aCons (eVar 4) (aCons (eGet (mSlot 5) (eC (.int 0))) aNil))))))) (tNot' (tTru (hdl (eCall "is_row" 2 (aCons (eGet (mSlot 3) (eC (.int 3))) (aCons (eC .non) aNil))))))))
 (sRet (eC (.bl false)))
 sNext)
 (sSeq (sSet 7 (eCall "pairs_of" 1 (aCons (eCall "low" 2 (aCons (eGet (hdl (eFld "masks" (eVar 0))) (eGet (mSlot 3) (eC (.int 2)))) (aCons (eVar 6) aNil))) aNil)))
 (sSeq (sIf (tV (eCop .ne (eLen (mSlot 7)) (eLen (hdl (eGet (mSlot 3) (eC (.int 3)))))))
 (sRet (eC (.bl false)))
 sNext)
 (sSeq (sExpr (eApp (hdl (eGet (hdl (eFld "steps" (eVar 0))) (eVar 1))) (eTup (aCons (eGet (mSlot 3) (eC (.int 2))) (aCons (eVar 6) aNil)))))
 (sSeq (sFor (iEnumU (eGet (mSlot 3) (eC (.int 3)))) (tgTup 2 (tgsCons (tgName 8) (tgsCons (tgName 9) tgsNil)))
 (sSeq (sIf (tOr' (tNot' (tTru (hdl (eCall "is_row" 2 (aCons (eVar 9) (aCons (eC (.int 3)) aNil)))))) (tOr' (tNot' (tTru (hdl (eCall "is_number" 2 (aCons (eGet (mSlot 9) (eC (.int 0))) (aCons (eC (.int 2)) aNil)))))) (tNot' (tTru (hdl (eCall "is_number" 2 (aCons (eGet (mSlot 9) (eC (.int 1))) (aCons (eC (.int 2)) aNil))))))))
 (sRet (eC (.bl false)))
 sNext)
 (sSeq (sIf (tOr' (tV (eCop .ne (eSl (mSlot 9) pNone (pSome (eC (.int 2)))) (eGet (mSlot 7) (eVar 8)))) (tNot' (tTru (hdl (eMeth "Judge" "is_of" "Judge.is_of" 4 (eVar 0) (aCons (eGet (mSlot 9) (eC (.int 2))) (aCons (eGet (mSlot 9) (eC (.int 0))) (aCons (eGet (mSlot 5) (eC (.int 1))) aNil))))))))
 (sRet (eC (.bl false)))
 sNext)
 (sSeq (sIf (tNot' (tTru (hdl (eCall "within" 2 (aCons (eCall "low" 2 (aCons (eGet (hdl (eFld "masks" (eVar 0))) (eGet (mSlot 9) (eC (.int 2)))) (aCons (eGet (mSlot 9) (eC (.int 1))) aNil))) (aCons (eGet (hdl (eFld "masks" (eVar 0))) (eVar 1)) aNil))))))
 (sRet (eC (.bl false)))
 sNext)
 (sExpr (eApp (hdl (eGet (hdl (eFld "steps" (eVar 0))) (eVar 1))) (eTup (aCons (eGet (mSlot 9) (eC (.int 2))) (aCons (eGet (mSlot 9) (eC (.int 1))) aNil)))))))))
 (sRet (eC (.bl true))))))))))
def t_Judge_push_fits : Nat × Nat × M Fl := (4, 10, m_Judge_push_fits)
def m_Judge_answer_fits : M Fl :=
 (sSeq (sIf (tOr' (tNot' (tTru (hdl (eCall "is_row" 2 (aCons (eVar 3) (aCons (eC .non) aNil)))))) (tOr' (tV (eCop .lt (eLen (mSlot 3)) (eC (.int 2)))) (tNot' (tTru (hdl (eCall "is_number" 2 (aCons (eGet (mSlot 3) (eC (.int 1))) (aCons (eBop .sub (eLen (mSlot 2)) (eC (.int 1))) aNil))))))))
 (sRet (eC (.bl false)))
 sNext)
 (sSeq (sSet 4 (eGet (mSlot 2) (eGet (mSlot 3) (eC (.int 1)))))
 (sSeq (sIf (tV (eCop .ne (eGet (mSlot 3) (eC (.int 0))) (eGet (hdl (eTup (aCons (eC (.str "pop")) (aCons (eC (.str "change")) (aCons (eC (.str "push")) aNil))))) (eLen (hdl (eGet (mSlot 4) (eC (.int 1))))))))
 (sRet (eC (.bl false)))
 sNext)
 (sSeq (sIf (tV (eCop .eq (eLen (hdl (eGet (mSlot 4) (eC (.int 1))))) (eC (.int 0))))
 (sRet (eAnd (eCop .eq (eLen (mSlot 3)) (eC (.int 2))) (eCall "within" 2 (aCons (eCall "bit" 2 (aCons (eGet (mSlot 4) (eC (.int 0))) (aCons (eGet (hdl (eFld "ranks" (eFld "duel" (eVar 0)))) (eGet (mSlot 4) (eC (.int 0)))) aNil))) (aCons (eGet (hdl (eFld "masks" (eVar 0))) (eVar 1)) aNil)))))
 sNext)
 (sSeq (sIf (tV (eCop .eq (eLen (hdl (eGet (mSlot 4) (eC (.int 1))))) (eC (.int 1))))
 (sRet (eMeth "Judge" "change_fits" "Judge.change_fits" 4 (eVar 0) (aCons (eVar 1) (aCons (eVar 4) (aCons (eVar 3) aNil)))))
 sNext)
 (sRet (eMeth "Judge" "push_fits" "Judge.push_fits" 4 (eVar 0) (aCons (eVar 1) (aCons (eVar 4) (aCons (eVar 3) aNil))))))))))
def t_Judge_answer_fits : Nat × Nat × M Fl := (4, 5, m_Judge_answer_fits)
def m_Judge_entry_fits : M Fl :=
 (sSeq (sIf (tNot' (tTru (hdl (eGet (hdl (eFld "heads" (eVar 0))) (eVar 1)))))
 (sRet (eC (.bl false)))
 sNext)
 (sSeq (sAsgT (eGet (hdl (eFld "paper" (eVar 0))) (eVar 1)) (tgTup 4 (tgsCons (tgName 2) (tgsCons (tgName 3) (tgsCons (tgName 4) (tgsCons (tgName 5) tgsNil))))))
 (sSeq (sSet 6 (eMeth "Duel" "row" "Duel.row" 3 (eFld "duel" (eVar 0)) (aCons (eVar 2) (aCons (eVar 3) aNil))))
 (sSeq (sIf (tV (eCop .eq (eGet (hdl (eFld "sides" (eFld "duel" (eVar 0)))) (eVar 2)) (eFld "side" (eVar 0))))
 (sRet (eAnd (eCop .eq (eLen (mSlot 5)) (eC (.int 1))) (eMeth "Judge" "answer_fits" "Judge.answer_fits" 4 (eVar 0) (aCons (eVar 1) (aCons (eVar 6) (aCons (eGet (mSlot 5) (eC (.int 0))) aNil))))))
 sNext)
 (sSeq (sIf (tV (eCop .ne (eLen (mSlot 5)) (eLen (mSlot 6))))
 (sRet (eC (.bl false)))
 sNext)
 (sSeq (sFor (iEnumU (eVar 5)) (tgTup 2 (tgsCons (tgName 7) (tgsCons (tgName 8) tgsNil)))
 (sIf (tOr' (tNot' (tTru (hdl (eMeth "Judge" "answer_fits" "Judge.answer_fits" 4 (eVar 0) (aCons (eVar 1) (aCons (eVar 6) (aCons (eVar 8) aNil))))))) (tV (eCop .ne (eGet (mSlot 8) (eC (.int 1))) (eVar 7))))
 (sRet (eC (.bl false)))
 sNext))
 (sRet (eC (.bl true)))))))))
def t_Judge_entry_fits : Nat × Nat × M Fl := (2, 9, m_Judge_entry_fits)
def m_Judge_reached : M Fl :=
 (sSeq (sOwn 3 (oLC (iRange (aCons (eLen (hdl (eFld "paper" (eVar 0)))) aNil)) (tgName 4) (ret true) (eCop .eq (eVar 4) (eVar 1)) [4]))
 (sSeq (sOwn 5 (oLst (aCons (eVar 1) aNil)))
 (sSeq (sWhile (tTru (mSlot 5))
 (sFor (iItems (eGet (hdl (eFld "steps" (eVar 0))) (ePop (mSlot 5)))) (tgTup 2 (tgsCons (tgName 6) (tgsCons (tgName 7) tgsNil)))
 (sIf (tAnd' (tV (eCop .ge (eVar 7) (eVar 2))) (tNot' (tTru (hdl (eGet (mSlot 3) (eVar 6))))))
 (sSeq (sItem (mSlot 3) (eVar 6) (eC (.bl true)))
 (sExpr (eApp (mSlot 5) (eVar 6))))
 sNext)))
 (sRet (eVar 3)))))
def t_Judge_reached : Nat × Nat × M Fl := (3, 8, m_Judge_reached)
def m_Judge_on_bad_circle : M Fl :=
 (sSeq (sFor (iRange (aCons (eC (.int 3)) aNil)) (tgName 2)
 (sIf (tV (eCop .ne (eBop .mod (eVar 2) (eC (.int 2))) (eFld "side" (eVar 0))))
 (sSeq (sSet 3 (eMeth "Judge" "reached" "Judge.reached" 3 (eVar 0) (aCons (eVar 1) (aCons (eVar 2) aNil))))
 (sFor (iRange (aCons (eLen (hdl (eFld "paper" (eVar 0)))) aNil)) (tgName 4)
 (sIf (tTru (hdl (eGet (mSlot 3) (eVar 4))))
 (sFor (iItems (eGet (hdl (eFld "steps" (eVar 0))) (eVar 4))) (tgTup 2 (tgsCons (tgName 5) (tgsCons (tgName 6) tgsNil)))
 (sIf (tAnd' (tV (eCop .eq (eVar 6) (eVar 2))) (tTru (hdl (eGet (hdl (eMeth "Judge" "reached" "Judge.reached" 3 (eVar 0) (aCons (eVar 5) (aCons (eVar 2) aNil)))) (eVar 1)))))
 (sRet (eC (.bl true)))
 sNext))
 sNext)))
 sNext))
 (sRet (eC (.bl false))))
def t_Judge_on_bad_circle : Nat × Nat × M Fl := (2, 7, m_Judge_on_bad_circle)
def m_Judge_fault : M Fl :=
 (sSeq (sFor (iRange (aCons (eLen (hdl (eFld "paper" (eVar 0)))) aNil)) (tgName 1)
 (sIf (tNot' (tTru (hdl (eMeth "Judge" "entry_fits" "Judge.entry_fits" 2 (eVar 0) (aCons (eVar 1) aNil)))))
 (sRet (eVar 1))
 sNext))
 (sSeq (sFor (iRange (aCons (eLen (hdl (eFld "paper" (eVar 0)))) aNil)) (tgName 1)
 (sIf (tTru (hdl (eMeth "Judge" "on_bad_circle" "Judge.on_bad_circle" 2 (eVar 0) (aCons (eVar 1) aNil))))
 (sRet (eVar 1))
 sNext))
 (sRet (eC .non))))
def t_Judge_fault : Nat × Nat × M Fl := (1, 2, m_Judge_fault)
def m_law_put : M Fl :=
 (sRet (eBop .add (eBop .add (eSl (mSlot 0) pNone (pSome (eVar 1))) (eTup (aCons (eVar 2) aNil))) (eSl (mSlot 0) (pSome (eBop .add (eVar 1) (eC (.int 1)))) pNone)))
def t_law_put : Nat × Nat × M Fl := (3, 3, m_law_put)
def m_law_odd : M Fl :=
 (sRet (eCall "_law_choice" 2 (aCons (eVar 0) (aCons (eFz (oLst (aCons (eC .non) (aCons (eC (.bl true)) (aCons (eC (.str "a")) (aCons (eFz (oLst aNil)) (aCons (eNeg (eC (.int 1))) (aCons (eTup aNil) (aCons (eLen (mSlot 1)) (aCons (eTup (aCons (eTup (aCons (eC (.int 0)) (aCons (eC (.int 0)) aNil))) (aCons (eTup (aCons (eC (.int 0)) (aCons (eC (.int 0)) aNil))) aNil))) (aCons (eTup (aCons (eTup (aCons (eC (.int 0)) (aCons (eC (.int 1)) aNil))) (aCons (eTup (aCons (eC (.int 0)) (aCons (eC (.int 0)) aNil))) aNil))) (aCons (eTup (aCons (eC (.str "pop")) (aCons (eC (.int 0)) aNil))) aNil)))))))))))) aNil))))
def t_law_odd : Nat × Nat × M Fl := (2, 2, m_law_odd)
def m_law_row_turned : M Fl :=
 (sSeq (sSet 3 (eCall "_law_draw" 2 (aCons (eVar 0) (aCons (eLen (mSlot 2)) aNil))))
 (sSeq (sSet 4 (eCall "_law_draw" 2 (aCons (eVar 0) (aCons (eC (.int 5)) aNil))))
 (sSeq (sIf (tV (eCop .eq (eVar 4) (eC (.int 0))))
 (sRet (eBop .add (eSl (mSlot 2) pNone (pSome (eVar 3))) (eSl (mSlot 2) (pSome (eBop .add (eVar 3) (eC (.int 1)))) pNone)))
 sNext)
 (sSeq (sIf (tV (eCop .eq (eVar 4) (eC (.int 1))))
 (sRet (eBop .add (eVar 2) (eTup (aCons (eCall "_law_choice" 2 (aCons (eVar 0) (aCons (eFz (oLst (aCons (eGet (mSlot 2) (eVar 3)) (aCons (eC (.int 0)) aNil)))) aNil))) aNil))))
 sNext)
 (sSeq (sIf (tV (eCop .eq (eVar 4) (eC (.int 2))))
 (sSeq (sSet 5 (eCall "_law_draw" 2 (aCons (eVar 0) (aCons (eLen (mSlot 2)) aNil))))
 (sRet (eCall "_law_put" 3 (aCons (eCall "_law_put" 3 (aCons (eVar 2) (aCons (eVar 3) (aCons (eGet (mSlot 2) (eVar 5)) aNil)))) (aCons (eVar 5) (aCons (eGet (mSlot 2) (eVar 3)) aNil))))))
 sNext)
 (sSeq (sIf (tV (eCop .eq (eVar 4) (eC (.int 3))))
 (sRet (eCall "_law_put" 3 (aCons (eVar 2) (aCons (eVar 3) (aCons (eCall "_law_odd" 2 (aCons (eVar 0) (aCons (eVar 1) aNil))) aNil)))))
 sNext)
 (sRet (eCall "_law_put" 3 (aCons (eVar 2) (aCons (eVar 3) (aCons (eBop .sub (eCall "_law_draw" 2 (aCons (eVar 0) (aCons (eBop .add (eLen (mSlot 1)) (eC (.int 1))) aNil))) (eBop .mul (eCall "_law_draw" 2 (aCons (eVar 0) (aCons (eC (.int 2)) aNil))) (eBop .add (eLen (mSlot 1)) (eC (.int 1))))) aNil)))))))))))
def t_law_row_turned : Nat × Nat × M Fl := (3, 6, m_law_row_turned)
def m_law_answers : M Fl :=
 (sSeq (sIf (tV (eCop .eq (eVar 2) (eTup aNil)))
 (sRet (eTup (aCons (eTup (aCons (eC (.str "pop")) (aCons (eC (.int 0)) aNil))) aNil)))
 sNext)
 (sSeq (sSet 3 (eCall "_law_draw" 2 (aCons (eVar 0) (aCons (eLen (mSlot 2)) aNil))))
 (sSeq (sSet 4 (eGet (mSlot 2) (eVar 3)))
 (sSeq (sSet 5 (eCall "_law_draw" 2 (aCons (eVar 0) (aCons (eC (.int 6)) aNil))))
 (sSeq (sIf (tV (eCop .eq (eVar 5) (eC (.int 0))))
 (sRet (eCall "_law_row_turned" 3 (aCons (eVar 0) (aCons (eVar 1) (aCons (eVar 2) aNil)))))
 sNext)
 (sSeq (sIf (tV (eCop .eq (eVar 5) (eC (.int 1))))
 (sRet (eCall "_law_put" 3 (aCons (eVar 2) (aCons (eVar 3) (aCons (eCall "_law_put" 3 (aCons (eVar 4) (aCons (eC (.int 0)) (aCons (eCall "_law_choice" 2 (aCons (eVar 0) (aCons (eFz (oLst (aCons (eC (.str "pop")) (aCons (eC (.str "change")) (aCons (eC (.str "push")) aNil))))) aNil))) aNil)))) aNil)))))
 sNext)
 (sSeq (sIf (tV (eCop .eq (eVar 5) (eC (.int 2))))
 (sRet (eCall "_law_put" 3 (aCons (eVar 2) (aCons (eVar 3) (aCons (eCall "_law_put" 3 (aCons (eVar 4) (aCons (eC (.int 1)) (aCons (eBop .sub (eCall "_law_draw" 2 (aCons (eVar 0) (aCons (eC (.int 5)) aNil))) (eC (.int 1))) aNil)))) aNil)))))
 sNext)
 (sSeq (sIf (tOr' (tV (eCop .eq (eVar 5) (eC (.int 3)))) (tOr' (tV (eCop .lt (eLen (mSlot 4)) (eC (.int 4)))) (tV (eCop .eq (eGet (mSlot 4) (eC (.int 3))) (eTup aNil)))))
 (sRet (eCall "_law_put" 3 (aCons (eVar 2) (aCons (eVar 3) (aCons (eCall "_law_row_turned" 3 (aCons (eVar 0) (aCons (eVar 1) (aCons (eVar 4) aNil)))) aNil)))))
 sNext)
 (sSeq (sIf (tV (eCop .eq (eVar 5) (eC (.int 4))))
 (sRet (eCall "_law_put" 3 (aCons (eVar 2) (aCons (eVar 3) (aCons (eCall "_law_put" 3 (aCons (eVar 4) (aCons (eC (.int 3)) (aCons (eCall "_law_row_turned" 3 (aCons (eVar 0) (aCons (eVar 1) (aCons (eGet (mSlot 4) (eC (.int 3))) aNil)))) aNil)))) aNil)))))
 sNext)
 (sSeq (sSet 6 (eCall "_law_draw" 2 (aCons (eVar 0) (aCons (eLen (hdl (eGet (mSlot 4) (eC (.int 3))))) aNil))))
 (sSeq (sSet 7 (eCall "_law_row_turned" 3 (aCons (eVar 0) (aCons (eVar 1) (aCons (eGet (hdl (eGet (mSlot 4) (eC (.int 3)))) (eVar 6)) aNil)))))
 (sRet (eCall "_law_put" 3 (aCons (eVar 2) (aCons (eVar 3) (aCons (eCall "_law_put" 3 (aCons (eVar 4) (aCons (eC (.int 3)) (aCons (eCall "_law_put" 3 (aCons (eGet (mSlot 4) (eC (.int 3))) (aCons (eVar 6) (aCons (eVar 7) aNil)))) aNil)))) aNil))))))))))))))))
def t_law_answers : Nat × Nat × M Fl := (3, 8, m_law_answers)
def m_wall : M Fl :=
 (sWhile (tTru (hdl (eC (.bl true))))
 sNext)
def t_wall : Nat × Nat × M Fl := (1, 1, m_wall)
def m_law_stack : M Fl :=
 (sRet (eTupleOf (hdl (eFz (oLC (iRange (aCons (eCall "_law_draw" 2 (aCons (eVar 0) (aCons (eBop .add (eVar 2) (eC (.int 1))) aNil))) aNil)) (tgName 3) (ret true) (eCall "_law_draw" 2 (aCons (eVar 0) (aCons (eVar 1) aNil))) [3])))))
def t_law_stack : Nat × Nat × M Fl := (3, 4, m_law_stack)
def m_Match___init__ : M Fl :=
 (sSeq (sFldS "Match" "duel" (eVar 0) (eVar 1))
 (sSeq (sFldS "Match" "_past" (eVar 0) (eFz (oLst (aCons (eTup (aCons (eVar 2) (aCons (eVar 3) aNil))) aNil))))
 (sFldS "Match" "_moves" (eVar 0) (eFz (oLst aNil)))))
def t_Match___init__ : Nat × Nat × M Fl := (4, 4, m_Match___init__)
def m_Match_position : M Fl :=
 (sRet (eGet (hdl (eFld "_past" (eVar 0))) (eNeg (eC (.int 1)))))
def t_Match_position : Nat × Nat × M Fl := (1, 1, m_Match_position)
def m_Match_won : M Fl :=
 (sSeq (sAsgT (eMeth "Match" "position" "Match.position" 1 (eVar 0) aNil) (tgTup 2 (tgsCons (tgName 1) (tgsCons (tgName 2) tgsNil))))
 (sSeq (sIf (tNot' (tTru (mSlot 2)))
 (sRet (eGet (hdl (eFld "ends" (eFld "duel" (eVar 0)))) (eVar 1)))
 sNext)
 (sSeq (sIf (tNot' (tTru (hdl (eMeth "Duel" "row" "Duel.row" 3 (eFld "duel" (eVar 0)) (aCons (eVar 1) (aCons (eGet (mSlot 2) (eC (.int 0))) aNil))))))
 (sRet (eBop .sub (eC (.int 1)) (eGet (hdl (eFld "sides" (eFld "duel" (eVar 0)))) (eVar 1))))
 sNext)
 (sRet (eC .non)))))
def t_Match_won : Nat × Nat × M Fl := (1, 3, m_Match_won)
def m_Match_moves : M Fl :=
 (sRet (eTupleOf (hdl (eFld "_moves" (eVar 0)))))
def t_Match_moves : Nat × Nat × M Fl := (1, 1, m_Match_moves)
def m_Match_move : M Fl :=
 (sSeq (sIf (tV (eCop .notN (eMeth "Match" "won" "Match.won" 1 (eVar 0) aNil) (eC .non)))
 fail
 sNext)
 (sSeq (sAsgT (eMeth "Match" "position" "Match.position" 1 (eVar 0) aNil) (tgTup 2 (tgsCons (tgName 2) (tgsCons (tgName 3) tgsNil))))
 (sSeq (sSet 4 (eMeth "Duel" "row" "Duel.row" 3 (eFld "duel" (eVar 0)) (aCons (eVar 2) (aCons (eGet (mSlot 3) (eC (.int 0))) aNil))))
 (sSeq (sIf (tNot' (tTru (hdl (eCall "is_number" 2 (aCons (eVar 1) (aCons (eBop .sub (eLen (mSlot 4)) (eC (.int 1))) aNil))))))
 fail
 sNext)
 (sSeq (sExpr (eApp (hdl (eFld "_past" (eVar 0))) (eCall "after" 2 (aCons (eVar 3) (aCons (eGet (mSlot 4) (eVar 1)) aNil)))))
 (sExpr (eApp (hdl (eFld "_moves" (eVar 0))) (eVar 1))))))))
def t_Match_move : Nat × Nat × M Fl := (2, 5, m_Match_move)
def m_number_in : M Fl :=
 (sSeq (sIf (tAnd' (tV (eCop .eq (eLen (mSlot 0)) (eC (.int 1)))) (tAnd' (tV (eMem false (eVar 0) (hdl (eC (.str "0123456789"))))) (tV (eCop .lt (eInt1 (eVar 0)) (eVar 1)))))
 (sRet (eInt1 (eVar 0)))
 sNext)
 (sRet (eC .non)))
def t_number_in : Nat × Nat × M Fl := (2, 2, m_number_in)
def m_first_position : M Fl :=
 (sSeq fail
 (sSeq (sIf (tOr' (tV (eCop .lt (eLen (mSlot 2)) (eC (.int 3)))) (tOr' (tV (eCop .ne (eGet (mSlot 2) (eC (.int 0))) (eC (.str "at")))) (tV (eCop .ne (eGet (mSlot 2) (eC (.int 2))) (eC (.str ":"))))))
 (sRet (eC .non))
 sNext)
 (sSeq (sSet 3 (eCall "number_in" 2 (aCons (eGet (mSlot 2) (eC (.int 1))) (aCons (eLen (hdl (eFld "sides" (eVar 0)))) aNil))))
 (sSeq (sOwn 4 (oLC (iItems (eSl (mSlot 2) (pSome (eC (.int 3))) pNone)) (tgName 5) (ret true) (eCall "number_in" 2 (aCons (eVar 5) (aCons (eFld "letters" (eVar 0)) aNil))) [5]))
 (sSeq (sIf (tOr' (tV (eCop .isN (eVar 3) (eC .non))) (tV (eMem false (eC .non) (mSlot 4))))
 (sRet (eC .non))
 sNext)
 (sRet (eTup (aCons (eVar 3) (aCons (eTupleOf (mSlot 4)) aNil)))))))))
def t_first_position : Nat × Nat × M Fl := (2, 6, m_first_position)
def m_read_journal : M Fl :=
 (sSeq fail
 (sSeq (sSet 3 (eCall "first_position" 2 (aCons (eVar 0) (aCons (eGet (mSlot 2) (eC (.int 0))) aNil))))
 (sSeq (sIf (tOr' (tV (eCop .isN (eVar 3) (eC .non))) (tV (eCop .eq (eLen (mSlot 2)) (eC (.int 1)))))
 fail
 sNext)
 (sSeq (sSet 4 (eMake "Match" "Match.__init__" 4 false (aCons (eVar 0) (aCons (eGet (mSlot 3) (eC (.int 0))) (aCons (eGet (mSlot 3) (eC (.int 1))) aNil)))))
 (sSeq (sFor (iEnumU (eSl (mSlot 2) (pSome (eC (.int 1))) (pSome (eNeg (eC (.int 1)))))) (tgTup 2 (tgsCons (tgName 5) (tgsCons (tgName 6) tgsNil)))
 (sSeq fail
 (sSeq (sIf (tOr' (tV (eCop .ne (eLen (mSlot 7)) (eC (.int 2)))) (tOr' (tV (eCop .ne (eGet (mSlot 7) (eC (.int 0))) (eC (.str "move")))) (tV (eCop .isN (eCall "number_in" 2 (aCons (eGet (mSlot 7) (eC (.int 1))) (aCons (eC (.int 10)) aNil))) (eC .non)))))
 fail
 sNext)
 fail)))
 (sSeq (sIf (tV (eCop .ne (eGet (mSlot 2) (eNeg (eC (.int 1)))) (eC (.str ""))))
 fail
 sNext)
 (sRet (eVar 4))))))))
def t_read_journal : Nat × Nat × M Fl := (2, 8, m_read_journal)
def m_law_some : M Fl :=
 (sSeq (sIf (tV (eCop .gt (eCall "_law_draw" 2 (aCons (eVar 0) (aCons (eC (.int 4)) aNil))) (eC (.int 0))))
 (sRet (eCall "_law_small" 1 (aCons (eVar 0) aNil)))
 sNext)
 (sSeq (sIf (tV (eCop .eq (eCall "_law_draw" 2 (aCons (eVar 0) (aCons (eC (.int 2)) aNil))) (eC (.int 0))))
 (sRet (eCall "_law_duel" 4 (aCons (eVar 0) (aCons (eBop .add (eC (.int 1)) (eCall "_law_draw" 2 (aCons (eVar 0) (aCons (eC (.int 2)) aNil)))) (aCons (eC (.int 3)) (aCons (eC (.int 2)) aNil))))))
 sNext)
 (sRet (eCall "_law_duel" 4 (aCons (eVar 0) (aCons (eBop .add (eC (.int 1)) (eCall "_law_draw" 2 (aCons (eVar 0) (aCons (eC (.int 2)) aNil)))) (aCons (eBop .add (eC (.int 1)) (eCall "_law_draw" 2 (aCons (eVar 0) (aCons (eC (.int 2)) aNil)))) (aCons (eC (.int 3)) aNil))))))))
def t_law_some : Nat × Nat × M Fl := (1, 1, m_law_some)
def m_law_begun : M Fl :=
 (sSeq (sOwn 5 (oLC (iItems (eVar 4)) (tgName 6) (ret true) (eC .non) [6]))
 (sSeq (sIf (tV (eCop .ne (eVar 4) (eTup aNil)))
 (sItem (mSlot 5) (eC (.int 0)) (eCall "_law_first" 5 (aCons (eVar 0) (aCons (eVar 1) (aCons (eVar 2) (aCons (eVar 3) (aCons (eVar 4) aNil)))))))
 sNext)
 (sRet (eFz (oDisp (pCons (eC (.str "state")) (eVar 3) (pCons (eC (.str "stack")) (eVar 4) (pCons (eC (.str "notes")) (eVar 5) (pCons (eC (.str "seen")) (eFz (oLC (iItems (eVar 4)) (tgName 6) (ret true) (eC (.int 2)) [6])) pNil)))))))))
def t_law_begun : Nat × Nat × M Fl := (5, 7, m_law_begun)
def m_law_behind : M Fl :=
 (sSeq (sSet 5 (eCall "_law_answer" 3 (aCons (eVar 2) (aCons (eVar 3) (aCons (eVar 4) aNil)))))
 (sSeq (sAsgT (eGet (hdl (eMeth "Duel" "row" "Duel.row" 3 (eVar 0) (aCons (eGet (mSlot 3) (eC (.str "state"))) (aCons (eGet (hdl (eGet (mSlot 3) (eC (.str "stack")))) (eC (.int 0))) aNil)))) (eVar 4)) (tgTup 2 (tgsCons (tgName 6) (tgsCons (tgName 7) tgsNil))))
 (sSeq (sSet 8 (eBop .add (eVar 7) (eSl (hdl (eGet (mSlot 3) (eC (.str "stack")))) (pSome (eC (.int 1))) pNone)))
 (sSeq (sSet 9 (eSl (hdl (eGet (mSlot 3) (eC (.str "notes")))) (pSome (eC (.int 1))) pNone))
 (sSeq (sSet 10 (eSl (hdl (eGet (mSlot 3) (eC (.str "seen")))) (pSome (eC (.int 1))) pNone))
 (sSeq (sIf (tV (eCop .eq (eGet (mSlot 5) (eC (.int 0))) (eC (.str "change"))))
 (sSeq (sSet 9 (eBop .add (eFz (oLst (aCons (eGet (mSlot 5) (eC (.int 2))) aNil))) (eVar 9)))
 (sSet 10 (eBop .add (eFz (oLst (aCons (eC (.int 2)) aNil))) (eVar 10))))
 sNext)
 (sSeq (sIf (tV (eCop .eq (eGet (mSlot 5) (eC (.int 0))) (eC (.str "push"))))
 (sSeq (sSet 9 (eBop .add (eFz (oLst (aCons (eGet (mSlot 5) (eC (.int 2))) (aCons (eGet (mSlot 5) (eC (.int 3))) aNil)))) (eVar 9)))
 (sSet 10 (eBop .add (eFz (oLst (aCons (eC (.int 2)) (aCons (eC (.int 2)) aNil)))) (eVar 10))))
 sNext)
 (sSeq (sOwn 10 (oLC (iItems (eVar 10)) (tgName 11) (ret true) (eMM2 true (aCons (eVar 11) (aCons (eGet (hdl (eFld "ranks" (eVar 0))) (eVar 6)) aNil))) [11]))
 (sSeq (sIf (tAnd' (tV (eCop .eq (eGet (mSlot 5) (eC (.int 0))) (eC (.str "pop")))) (tV (eCop .ne (eVar 9) (eFz (oLst aNil)))))
 (sIf (tV (eCop .isN (eGet (mSlot 9) (eC (.int 0))) (eC .non)))
 (sItem (mSlot 9) (eC (.int 0)) (eCall "_law_first" 5 (aCons (eVar 0) (aCons (eVar 1) (aCons (eVar 2) (aCons (eVar 6) (aCons (eVar 8) aNil)))))))
 (sItem (mSlot 9) (eC (.int 0)) (eGet (hdl (eFz (oLC (iItems (eGet (mSlot 9) (eC (.int 0)))) (tgName 12) (tV (eCop .eq (eSl (mSlot 12) pNone (pSome (eC (.int 2)))) (eTup (aCons (eVar 6) (aCons (eGet (mSlot 10) (eC (.int 0))) aNil))))) (eGet (mSlot 12) (eC (.int 2))) [12]))) (eC (.int 0)))))
 sNext)
 (sRet (eFz (oDisp (pCons (eC (.str "state")) (eVar 6) (pCons (eC (.str "stack")) (eVar 8) (pCons (eC (.str "notes")) (eVar 9) (pCons (eC (.str "seen")) (eVar 10) pNil))))))))))))))))
def t_law_behind : Nat × Nat × M Fl := (5, 13, m_law_behind)
def m_law_numbered : M Fl :=
 (sSeq (sIf (tV (eCop .eq (eGet (mSlot 0) (eC (.int 0))) (eC (.str "change"))))
 (sRet (eTup (aCons (eC (.str "change")) (aCons (eGet (mSlot 0) (eC (.int 1))) (aCons (eGet (mSlot 1) (eGet (mSlot 0) (eC (.int 2)))) aNil)))))
 sNext)
 (sSeq (sIf (tV (eCop .eq (eGet (mSlot 0) (eC (.int 0))) (eC (.str "push"))))
 (sSeq (sSet 2 (eTupleOf (hdl (eFz (oLC (iItems (eGet (mSlot 0) (eC (.int 3)))) (tgName 3) (ret true) (eTup (aCons (eGet (mSlot 3) (eC (.int 0))) (aCons (eGet (mSlot 3) (eC (.int 1))) (aCons (eGet (mSlot 1) (eGet (mSlot 3) (eC (.int 2)))) aNil)))) [3])))))
 (sRet (eTup (aCons (eC (.str "push")) (aCons (eGet (mSlot 0) (eC (.int 1))) (aCons (eGet (mSlot 1) (eGet (mSlot 0) (eC (.int 2)))) (aCons (eVar 2) aNil)))))))
 sNext)
 (sRet (eVar 0))))
def t_law_numbered : Nat × Nat × M Fl := (2, 4, m_law_numbered)
def m_law_kept : M Fl :=
 (sSeq (sOwn 2 (oDic false))
 (sSeq (sFor (iEnumU (eVar 1)) (tgTup 2 (tgsCons (tgName 3) (tgsCons (tgName 4) tgsNil)))
 (sItem (mSlot 2) (eVar 4) (eVar 3)))
 (sSeq (sOwn 5 (oLst aNil))
 (sSeq (sFor (iItems (eVar 1)) (tgName 4)
 (sSeq (sAsgT (eGet (mSlot 0) (eVar 4)) (tgTup 4 (tgsCons (tgName 6) (tgsCons (tgName 7) (tgsCons (tgName 8) (tgsCons (tgName 9) tgsNil))))))
 (sExpr (eApp (mSlot 5) (eTup (aCons (eVar 6) (aCons (eVar 7) (aCons (eVar 8) (aCons (eTupleOf (hdl (eFz (oLC (iItems (eVar 9)) (tgName 10) (ret true) (eCall "_law_numbered" 2 (aCons (eVar 10) (aCons (eVar 2) aNil))) [10])))) aNil)))))))))
 (sRet (eTupleOf (mSlot 5)))))))
def t_law_kept : Nat × Nat × M Fl := (2, 11, m_law_kept)
def m_law_tells : M Fl :=
 (sSeq (sOwn 1 (oLst aNil))
 (sSeq (sFor (iItems (eGet (mSlot 0) (eC (.int 3)))) (tgName 2)
 (sSeq (sIf (tV (eCop .ne (eGet (mSlot 2) (eC (.int 0))) (eC (.str "pop"))))
 (sExpr (eApp (mSlot 1) (eGet (mSlot 2) (eC (.int 2)))))
 sNext)
 (sIf (tV (eCop .eq (eGet (mSlot 2) (eC (.int 0))) (eC (.str "push"))))
 fail
 sNext)))
 (sRet (eVar 1))))
def t_law_tells : Nat × Nat × M Fl := (1, 4, m_law_tells)
def m_law_fewer : M Fl :=
 (sSeq (sOwn 2 (oLC (iRange (aCons (eLen (mSlot 1)) aNil)) (tgName 3) (ret true) (eVar 3) [3]))
 (sSeq (sFor (iRange (aCons (eCall "_law_draw" 2 (aCons (eVar 0) (aCons (eC (.int 4)) aNil))) aNil)) (tgName 4)
 (sSeq (sOwn 5 (oLst aNil))
 (sSeq (sFor (iItems (eVar 2)) (tgName 3)
 (sSeq (sOwn 6 (oLC (iItems (eVar 2)) (tgName 7) (tAnd' (tV (eCop .ne (eVar 7) (eVar 3))) (tV (eMem false (eVar 3) (hdl (eCall "_law_tells" 1 (aCons (eGet (mSlot 1) (eVar 7)) aNil)))))) (eVar 7) [7]))
 (sIf (tV (eCop .eq (eVar 6) (eFz (oLst aNil))))
 (sExpr (eApp (mSlot 5) (eVar 3)))
 sNext)))
 (sIf (tV (eCop .ne (eVar 5) (eFz (oLst aNil))))
 (sSeq (sSet 8 (eCall "_law_choice" 2 (aCons (eVar 0) (aCons (eVar 5) aNil))))
 (sOwn 2 (oLC (iItems (eVar 2)) (tgName 3) (tV (eCop .ne (eVar 3) (eVar 8))) (eVar 3) [3])))
 sNext))))
 (sRet (eCall "_law_kept" 2 (aCons (eVar 1) (aCons (eVar 2) aNil))))))
def t_law_fewer : Nat × Nat × M Fl := (2, 9, m_law_fewer)
def m_Player___init__ : M Fl :=
 (sSeq (sIf (tV (eMem true (eVar 4) (hdl (eCall "shown" 4 (aCons (eVar 1) (aCons (eVar 2) (aCons (eVar 3) (aCons (eVar 5) aNil))))))))
 fail
 sNext)
 (sSeq (sFldS "Player" "duel" (eVar 0) (eVar 1))
 (sSeq (sFldS "Player" "side" (eVar 0) (eVar 2))
 (sSeq (sFldS "Player" "paper" (eVar 0) (eVar 3))
 (sSeq (sFldS "Player" "match" (eVar 0) (eMake "Match" "Match.__init__" 4 false (aCons (eVar 1) (aCons (eVar 4) (aCons (eVar 5) aNil)))))
 (sSeq (sFldS "Player" "_notes" (eVar 0) (eFz (oLC (iItems (eVar 5)) (tgName 6) (ret true) (eC .non) [6])))
 (sSeq (sFldS "Player" "_seen" (eVar 0) (eFz (oLC (iItems (eVar 5)) (tgName 6) (ret true) (eC (.int 2)) [6])))
 (sExpr (eMeth "Player" "arrive" "Player.arrive" 2 (eVar 0) (aCons (eVar 4) aNil))))))))))
def t_Player___init__ : Nat × Nat × M Fl := (6, 7, m_Player___init__)
def m_Player_position : M Fl :=
 (sRet (eMeth "Match" "position" "Match.position" 1 (eFld "match" (eVar 0)) aNil))
def t_Player_position : Nat × Nat × M Fl := (1, 1, m_Player_position)
def m_Player_first_entry : M Fl :=
 (sSeq (sSet 3 (eCall "shown" 4 (aCons (eFld "duel" (eVar 0)) (aCons (eFld "side" (eVar 0)) (aCons (eFld "paper" (eVar 0)) (aCons (eSl (mSlot 2) (pSome (eC (.int 1))) pNone) aNil))))))
 (sSeq (sSet 4 (eC .non))
 (sSeq fail
 (sRet (eVar 4)))))
def t_Player_first_entry : Nat × Nat × M Fl := (3, 8, m_Player_first_entry)
def m_Player_arrive : M Fl :=
 (sSeq (sSet 2 (eGet (hdl (eMeth "Player" "position" "Player.position" 1 (eVar 0) aNil)) (eC (.int 1))))
 (sSeq (sIf (tNot' (tTru (mSlot 2)))
 sRetN
 sNext)
 (sIf (tV (eCop .isN (eGet (hdl (eFld "_notes" (eVar 0))) (eC (.int 0))) (eC .non)))
 (sItem (hdl (eFld "_notes" (eVar 0))) (eC (.int 0)) (eMeth "Player" "first_entry" "Player.first_entry" 3 (eVar 0) (aCons (eVar 1) (aCons (eVar 2) aNil))))
 (sIf (tTru (hdl (eIsi "tuple" (eGet (hdl (eFld "_notes" (eVar 0))) (eC (.int 0))))))
 (sFor (iItems (eGet (hdl (eFld "_notes" (eVar 0))) (eC (.int 0)))) (tgTup 3 (tgsCons (tgName 3) (tgsCons (tgName 4) (tgsCons (tgName 5) tgsNil))))
 (sIf (tAnd' (tV (eCop .eq (eVar 3) (eVar 1))) (tV (eCop .eq (eVar 4) (eGet (hdl (eFld "_seen" (eVar 0))) (eC (.int 0))))))
 (sSeq (sItem (hdl (eFld "_notes" (eVar 0))) (eC (.int 0)) (eVar 5))
 sRetN)
 sNext))
 sNext))))
def t_Player_arrive : Nat × Nat × M Fl := (2, 6, m_Player_arrive)
def m_Player_answer : M Fl :=
 (sSeq (sFor (iItems (eGet (hdl (eGet (hdl (eFld "paper" (eVar 0))) (eGet (hdl (eFld "_notes" (eVar 0))) (eC (.int 0))))) (eC (.int 3)))) (tgName 2)
 (sIf (tV (eCop .eq (eGet (mSlot 2) (eC (.int 1))) (eVar 1)))
 (sRet (eVar 2))
 sNext))
 (sRet (eC .non)))
def t_Player_answer : Nat × Nat × M Fl := (2, 3, m_Player_answer)
def m_Player_move : M Fl :=
 (sSeq (sIf (tV (eCop .notN (eMeth "Match" "won" "Match.won" 1 (eFld "match" (eVar 0)) aNil) (eC .non)))
 fail
 sNext)
 (sSeq (sIf (tV (eCop .ne (eMeth "Match" "turn" "Match.turn" 1 (eFld "match" (eVar 0)) aNil) (eFld "side" (eVar 0))))
 fail
 sNext)
 (sRet (eGet (hdl (eGet (hdl (eGet (hdl (eGet (hdl (eFld "paper" (eVar 0))) (eGet (hdl (eFld "_notes" (eVar 0))) (eC (.int 0))))) (eC (.int 3)))) (eC (.int 0)))) (eC (.int 1))))))
def t_Player_move : Nat × Nat × M Fl := (1, 1, m_Player_move)
def m_Player_note : M Fl :=
 (sSeq (sSet 2 (eGet (hdl (eMeth "Player" "position" "Player.position" 1 (eVar 0) aNil)) (eC (.int 0))))
 (sSeq (sSet 3 (eGet (hdl (eFld "ranks" (eFld "duel" (eVar 0)))) (eVar 2)))
 (sSeq (sIf (tV (eCop .eq (eGet (mSlot 1) (eC (.int 0))) (eC (.str "change"))))
 (sItem (hdl (eFld "_notes" (eVar 0))) (eC (.int 0)) (eGet (mSlot 1) (eC (.int 2))))
 (sIf (tV (eCop .eq (eGet (mSlot 1) (eC (.int 0))) (eC (.str "push"))))
 (sSeq (sFldS "Player" "_notes" (eVar 0) (eBop .add (eFz (oLst (aCons (eGet (mSlot 1) (eC (.int 2))) (aCons (eGet (mSlot 1) (eC (.int 3))) aNil)))) (eSl (hdl (eFld "_notes" (eVar 0))) (pSome (eC (.int 1))) pNone)))
 (sFldS "Player" "_seen" (eVar 0) (eBop .add (eFz (oLst (aCons (eC (.int 2)) (aCons (eC (.int 2)) aNil)))) (eSl (hdl (eFld "_seen" (eVar 0))) (pSome (eC (.int 1))) pNone))))
 (sSeq (sFldS "Player" "_notes" (eVar 0) (eSl (hdl (eFld "_notes" (eVar 0))) (pSome (eC (.int 1))) pNone))
 (sFldS "Player" "_seen" (eVar 0) (eSl (hdl (eFld "_seen" (eVar 0))) (pSome (eC (.int 1))) pNone)))))
 (sSeq (sFldS "Player" "_seen" (eVar 0) (eFz (oLC (iItems (eFld "_seen" (eVar 0))) (tgName 4) (ret true) (eMM2 true (aCons (eVar 4) (aCons (eVar 3) aNil))) [4])))
 (sIf (tV (eCop .eq (eGet (mSlot 1) (eC (.int 0))) (eC (.str "pop"))))
 (sExpr (eMeth "Player" "arrive" "Player.arrive" 2 (eVar 0) (aCons (eVar 2) aNil)))
 sNext)))))
def t_Player_note : Nat × Nat × M Fl := (2, 5, m_Player_note)
def m_print_move : M Fl :=
 fail
def t_print_move : Nat × Nat × M Fl := (1, 2, m_print_move)
def m_print_duel : M Fl :=
 (sSeq (sOwn 1 (oLst aNil))
 (sSeq fail
 (sSeq fail
 (sSeq (sFor (iRange (aCons (eLen (hdl (eFld "sides" (eVar 0)))) aNil)) (tgName 5)
 (sFor (iRange (aCons (eFld "letters" (eVar 0)) aNil)) (tgName 6)
 (sSeq (sSet 7 (eMeth "Duel" "row" "Duel.row" 3 (eVar 0) (aCons (eVar 5) (aCons (eVar 6) aNil))))
 (sIf (tTru (mSlot 7))
 (sSeq fail
 fail)
 sNext))))
 fail))))
def t_print_duel : Nat × Nat × M Fl := (1, 11, m_print_duel)
def m_law_wide : M Fl :=
 (sRet (eCall "_law_duel" 4 (aCons (eVar 0) (aCons (eBop .add (eC (.int 1)) (eCall "_law_draw" 2 (aCons (eVar 0) (aCons (eC (.int 3)) aNil)))) (aCons (eBop .add (eC (.int 1)) (eCall "_law_draw" 2 (aCons (eVar 0) (aCons (eC (.int 3)) aNil)))) (aCons (eC (.int 3)) aNil))))))
def t_law_wide : Nat × Nat × M Fl := (1, 1, m_law_wide)
def m_law_print : M Fl :=
 (sSeq (sOwn 1 (oLst aNil))
 (sSeq (sFor (iRange (aCons (eLen (hdl (eFld "sides" (eVar 0)))) aNil)) (tgName 2)
 fail)
 (sSeq fail
 (sSeq (sFor (iRange (aCons (eLen (hdl (eFld "sides" (eVar 0)))) aNil)) (tgName 2)
 (sFor (iRange (aCons (eFld "letters" (eVar 0)) aNil)) (tgName 3)
 (sSeq (sOwn 4 (oLst aNil))
 (sSeq (sFor (iItems (eMeth "Duel" "row" "Duel.row" 3 (eVar 0) (aCons (eVar 2) (aCons (eVar 3) aNil)))) (tgName 5)
 fail)
 (sIf (tV (eCop .ne (eVar 4) (eFz (oLst aNil))))
 fail
 sNext)))))
 fail))))
def t_law_print : Nat × Nat × M Fl := (1, 8, m_law_print)
def m_read_duel : M Fl :=
 (sSeq fail
 (sSeq fail
 (sSeq (sFor (iEnumU (eSl (mSlot 1) pNone (pSome (eNeg (eC (.int 1)))))) (tgTup 2 (tgsCons (tgName 3) (tgsCons (tgName 4) tgsNil)))
 (sIf (tNot' (tTru (hdl (eMeth "Reader" "read" "Reader.read" 2 (eVar 2) (aCons (eVar 4) aNil)))))
 fail
 sNext))
 (sSeq (sIf (tOr' (tV (eCop .ne (eGet (mSlot 1) (eNeg (eC (.int 1)))) (eC (.str "")))) (tV (eCop .isN (eFld "letters" (eVar 2)) (eC .non))))
 fail
 sNext)
 (sRet (eMeth "Reader" "duel" "Reader.duel" 1 (eVar 2) aNil))))))
def t_read_duel : Nat × Nat × M Fl := (1, 5, m_read_duel)
def m_Reader___init__ : M Fl :=
 (sSeq (sFldS "Reader" "states" (eVar 0) (eFz (oLst aNil)))
 (sSeq (sFldS "Reader" "letters" (eVar 0) (eC .non))
 (sSeq (sFldS "Reader" "rows" (eVar 0) (eFz (oDic true)))
 (sFldS "Reader" "last" (eVar 0) (eTup (aCons (eNeg (eC (.int 1))) (aCons (eNeg (eC (.int 1))) aNil)))))))
def t_Reader___init__ : Nat × Nat × M Fl := (1, 1, m_Reader___init__)
def m_Reader_read_state : M Fl :=
 (sSeq (sIf (tOr' (tV (eCop .notN (eFld "letters" (eVar 0)) (eC .non))) (tOr' (tV (eCop .ne (eLen (mSlot 1)) (eC (.int 4)))) (tV (eCop .eq (eLen (hdl (eFld "states" (eVar 0)))) (eC (.int 3))))))
 (sRet (eC (.bl false)))
 sNext)
 (sSeq (sSet 2 (eTup (aCons (eCall "number_in" 2 (aCons (eGet (mSlot 1) (eC (.int 1))) (aCons (eC (.int 2)) aNil))) (aCons (eCall "number_in" 2 (aCons (eGet (mSlot 1) (eC (.int 2))) (aCons (eBop .add (eC (.int 2)) (eC (.int 1))) aNil))) (aCons (eCall "number_in" 2 (aCons (eGet (mSlot 1) (eC (.int 3))) (aCons (eC (.int 2)) aNil))) aNil)))))
 (sSeq (sExpr (eApp (hdl (eFld "states" (eVar 0))) (eVar 2)))
 (sRet (eMem true (eC .non) (mSlot 2))))))
def t_Reader_read_state : Nat × Nat × M Fl := (2, 3, m_Reader_read_state)
def m_Reader_read_letters : M Fl :=
 (sSeq (sIf (tOr' (tV (eCop .notN (eFld "letters" (eVar 0)) (eC .non))) (tOr' (tNot' (tTru (hdl (eFld "states" (eVar 0))))) (tV (eCop .ne (eLen (mSlot 1)) (eC (.int 2))))))
 (sRet (eC (.bl false)))
 sNext)
 (sSeq (sFldS "Reader" "letters" (eVar 0) (eCall "number_in" 2 (aCons (eGet (mSlot 1) (eC (.int 1))) (aCons (eBop .add (eC (.int 3)) (eC (.int 1))) aNil))))
 (sRet (eAnd (eCop .notN (eFld "letters" (eVar 0)) (eC .non)) (eCop .gt (eFld "letters" (eVar 0)) (eC (.int 0)))))))
def t_Reader_read_letters : Nat × Nat × M Fl := (2, 2, m_Reader_read_letters)
def m_Reader_read_move : M Fl :=
 (sSeq (sIf (tNot' (tV (eChain .le .le (eC (.int 1)) (eLen (mSlot 1)) (eC (.int 3)))))
 (sRet (eC .non))
 sNext)
 (sSeq (sSet 2 (eCall "number_in" 2 (aCons (eGet (mSlot 1) (eC (.int 0))) (aCons (eLen (hdl (eFld "states" (eVar 0)))) aNil))))
 (sSeq (sOwn 3 (oLC (iItems (eSl (mSlot 1) (pSome (eC (.int 1))) pNone)) (tgName 4) (ret true) (eCall "number_in" 2 (aCons (eVar 4) (aCons (eFld "letters" (eVar 0)) aNil))) [4]))
 (sSeq (sIf (tOr' (tV (eCop .isN (eVar 2) (eC .non))) (tV (eMem false (eC .non) (mSlot 3))))
 (sRet (eC .non))
 sNext)
 (sRet (eTup (aCons (eVar 2) (aCons (eTupleOf (mSlot 3)) aNil))))))))
def t_Reader_read_move : Nat × Nat × M Fl := (2, 5, m_Reader_read_move)
def m_Reader_read_row : M Fl :=
 (sSeq (sIf (tOr' (tV (eCop .isN (eFld "letters" (eVar 0)) (eC .non))) (tOr' (tV (eCop .lt (eLen (mSlot 1)) (eC (.int 5)))) (tV (eCop .ne (eGet (mSlot 1) (eC (.int 3))) (eC (.str "go"))))))
 (sRet (eC (.bl false)))
 sNext)
 (sSeq (sSet 3 (eTup (aCons (eCall "number_in" 2 (aCons (eGet (mSlot 1) (eC (.int 1))) (aCons (eLen (hdl (eFld "states" (eVar 0)))) aNil))) (aCons (eCall "number_in" 2 (aCons (eGet (mSlot 1) (eC (.int 2))) (aCons (eFld "letters" (eVar 0)) aNil))) aNil))))
 (sSeq (sIf (tOr' (tV (eMem false (eC .non) (mSlot 3))) (tNot' (tV (eCop .lt (eFld "last" (eVar 0)) (eVar 3)))))
 (sRet (eC (.bl false)))
 sNext)
 (sSeq fail
 (sSeq fail
 (sSeq (sFldS "Reader" "last" (eVar 0) (eVar 3))
 (sSeq (sItem (hdl (eFld "rows" (eVar 0))) (eVar 3) (eTupleOf (mSlot 5)))
 (sSeq (sIf (tOr' (tV (eMem false (eC .non) (mSlot 5))) (tV (eCop .gt (eLen (mSlot 5)) (eC (.int 3)))))
 (sRet (eC (.bl false)))
 sNext)
 (sRet (eMem true (eC (.bl true)) (hdl (eFz (oLC (iEnumU (eVar 5)) (tgTup 2 (tgsCons (tgName 7) (tgsCons (tgName 8) tgsNil))) (ret true) (eMem false (eVar 8) (hdl (eSl (mSlot 5) pNone (pSome (eVar 7))))) [7, 8])))))))))))))
def t_Reader_read_row : Nat × Nat × M Fl := (3, 9, m_Reader_read_row)
def m_Reader_read : M Fl :=
 (sSeq fail
 (sSeq (sIf (tV (eCop .eq (eGet (mSlot 2) (eC (.int 0))) (eC (.str "state"))))
 (sRet (eMeth "Reader" "read_state" "Reader.read_state" 2 (eVar 0) (aCons (eVar 2) aNil)))
 sNext)
 (sSeq (sIf (tV (eCop .eq (eGet (mSlot 2) (eC (.int 0))) (eC (.str "letters"))))
 (sRet (eMeth "Reader" "read_letters" "Reader.read_letters" 2 (eVar 0) (aCons (eVar 2) aNil)))
 sNext)
 (sSeq (sIf (tV (eCop .eq (eGet (mSlot 2) (eC (.int 0))) (eC (.str "on"))))
 (sRet (eMeth "Reader" "read_row" "Reader.read_row" 3 (eVar 0) (aCons (eVar 2) (aCons (eVar 1) aNil))))
 sNext)
 (sRet (eC (.bl false)))))))
def t_Reader_read : Nat × Nat × M Fl := (2, 3, m_Reader_read)
def m_Reader_duel : M Fl :=
 (sSeq (sSet 1 (eTupleOf (hdl (eFz (oLC (iItems (eFld "states" (eVar 0))) (tgName 2) (ret true) (eGet (mSlot 2) (eC (.int 0))) [2])))))
 (sSeq (sSet 3 (eTupleOf (hdl (eFz (oLC (iItems (eFld "states" (eVar 0))) (tgName 2) (ret true) (eGet (mSlot 2) (eC (.int 1))) [2])))))
 (sSeq (sSet 4 (eTupleOf (hdl (eFz (oLC (iItems (eFld "states" (eVar 0))) (tgName 2) (ret true) (eGet (mSlot 2) (eC (.int 2))) [2])))))
 (sRet (eMake "Duel" "Duel.__init__" 6 true (aCons (eVar 1) (aCons (eVar 3) (aCons (eVar 4) (aCons (eFld "letters" (eVar 0)) (aCons (eFld "rows" (eVar 0)) aNil))))))))))
def t_Reader_duel : Nat × Nat × M Fl := (1, 5, m_Reader_duel)
def m_law_on : M Fl :=
 (sSeq fail
 (sSeq (sIf (tOr' (tV (eCop .isN (eGet (mSlot 1) (eC (.str "letters"))) (eC .non))) (tOr' (tV (eCop .lt (eLen (mSlot 2)) (eC (.int 5)))) (tV (eCop .ne (eGet (mSlot 2) (eC (.int 3))) (eC (.str "go"))))))
 (sRet (eC (.bl false)))
 sNext)
 (sSeq (sSet 3 (eTup (aCons (eCall "_law_digit" 2 (aCons (eGet (mSlot 2) (eC (.int 1))) (aCons (eLen (hdl (eGet (mSlot 1) (eC (.str "states"))))) aNil))) (aCons (eCall "_law_digit" 2 (aCons (eGet (mSlot 2) (eC (.int 2))) (aCons (eGet (mSlot 1) (eC (.str "letters"))) aNil))) aNil))))
 (sSeq (sIf (tOr' (tV (eMem false (eC .non) (mSlot 3))) (tAnd' (tV (eCop .ne (eGet (mSlot 1) (eC (.str "keys"))) (eFz (oLst aNil)))) (tNot' (tV (eCop .lt (eGet (hdl (eGet (mSlot 1) (eC (.str "keys")))) (eBop .sub (eLen (hdl (eGet (mSlot 1) (eC (.str "keys"))))) (eC (.int 1)))) (eVar 3))))))
 (sRet (eC (.bl false)))
 sNext)
 (sSeq fail
 (sSeq fail
 (sSeq (sItem (mSlot 1) (eC (.str "keys")) (eBop .add (eGet (mSlot 1) (eC (.str "keys"))) (eFz (oLst (aCons (eVar 3) aNil)))))
 (sSeq (sItem (mSlot 1) (eC (.str "rows")) (eBop .add (eGet (mSlot 1) (eC (.str "rows"))) (eFz (oLst (aCons (eTupleOf (mSlot 4)) aNil)))))
 (sRet (eC (.bl true)))))))))))
def t_law_on : Nat × Nat × M Fl := (2, 6, m_law_on)
def m_law_line : M Fl :=
 (sSeq fail
 (sSeq (sIf (tAnd' (tV (eCop .eq (eGet (mSlot 2) (eC (.int 0))) (eC (.str "state")))) (tAnd' (tV (eCop .eq (eLen (mSlot 2)) (eC (.int 4)))) (tAnd' (tV (eCop .isN (eGet (mSlot 1) (eC (.str "letters"))) (eC .non))) (tV (eCop .lt (eLen (hdl (eGet (mSlot 1) (eC (.str "states"))))) (eC (.int 3)))))))
 (sSeq (sSet 3 (eTup (aCons (eCall "_law_digit" 2 (aCons (eGet (mSlot 2) (eC (.int 1))) (aCons (eC (.int 2)) aNil))) (aCons (eCall "_law_digit" 2 (aCons (eGet (mSlot 2) (eC (.int 2))) (aCons (eC (.int 3)) aNil))) (aCons (eCall "_law_digit" 2 (aCons (eGet (mSlot 2) (eC (.int 3))) (aCons (eC (.int 2)) aNil))) aNil)))))
 (sSeq (sItem (mSlot 1) (eC (.str "states")) (eBop .add (eGet (mSlot 1) (eC (.str "states"))) (eFz (oLst (aCons (eVar 3) aNil)))))
 (sRet (eMem true (eC .non) (mSlot 3)))))
 sNext)
 (sSeq (sIf (tAnd' (tV (eCop .eq (eGet (mSlot 2) (eC (.int 0))) (eC (.str "letters")))) (tAnd' (tV (eCop .eq (eLen (mSlot 2)) (eC (.int 2)))) (tAnd' (tV (eCop .isN (eGet (mSlot 1) (eC (.str "letters"))) (eC .non))) (tV (eCop .ne (eGet (mSlot 1) (eC (.str "states"))) (eFz (oLst aNil)))))))
 (sSeq (sItem (mSlot 1) (eC (.str "letters")) (eCall "_law_digit" 2 (aCons (eGet (mSlot 2) (eC (.int 1))) (aCons (eC (.int 4)) aNil))))
 (sRet (eMem false (eGet (mSlot 1) (eC (.str "letters"))) (hdl (eFz (oLst (aCons (eC (.int 1)) (aCons (eC (.int 2)) (aCons (eC (.int 3)) aNil)))))))))
 sNext)
 (sRet (eAnd (eCop .eq (eGet (mSlot 2) (eC (.int 0))) (eC (.str "on"))) (eCall "_law_on" 2 (aCons (eVar 0) (aCons (eVar 1) aNil))))))))
def t_law_line : Nat × Nat × M Fl := (2, 4, m_law_line)
def m_Workshop___init__ : M Fl :=
 (sSeq (sFldS "Workshop" "_duel" (eVar 0) (eVar 1))
 (sSeq (sFldS "Workshop" "_known" (eVar 0) (eFz (oDisp (pCons (eC (.int 0)) (eFz (oDic true)) (pCons (eC (.int 1)) (eFz (oDic true)) pNil)))))
 (sSeq (sFldS "Workshop" "_counts" (eVar 0) (eFz (oLC (iRange (aCons (eFld "letters" (eVar 1)) aNil)) (tgName 2) (ret true) (eC (.int 0)) [2])))
 (sSeq (sFldS "Workshop" "_past" (eVar 0) (eFz (oLst aNil)))
 (sFldS "Workshop" "_future" (eVar 0) (eFz (oLst aNil)))))))
def t_Workshop___init__ : Nat × Nat × M Fl := (2, 3, m_Workshop___init__)
def m_Workshop_duel : M Fl :=
 (sRet (eFld "_duel" (eVar 0)))
def t_Workshop_duel : Nat × Nat × M Fl := (1, 1, m_Workshop_duel)
def m_Workshop_users : M Fl :=
 (sRet (eFz (oLC (iRange (aCons (eFld "letters" (eVar 2)) aNil)) (tgName 3) (tOr' (tV (eCop .eq (eVar 3) (eVar 1))) (tV (eMem false (eVar 1) (hdl (eCall "used_by" 2 (aCons (eVar 2) (aCons (eVar 3) aNil))))))) (eVar 3) [3])))
def t_Workshop_users : Nat × Nat × M Fl := (3, 4, m_Workshop_users)
def m_Workshop_forget : M Fl :=
 (sFor (iItems (eTup (aCons (eC (.int 0)) (aCons (eC (.int 1)) aNil)))) (tgName 2)
 (sSeq (sOwn 3 (oDC true (iPairsC (eGet (hdl (eFld "_known" (eVar 0))) (eVar 2))) (tgTup 2 (tgsCons (tgName 4) (tgsCons (tgName 5) tgsNil))) (tV (eMem true (eGet (mSlot 4) (eC (.int 1))) (mSlot 1))) (eVar 4) (eVar 5) [4, 5]))
 (sItem (hdl (eFld "_known" (eVar 0))) (eVar 2) (eVar 3))))
def t_Workshop_forget : Nat × Nat × M Fl := (2, 6, m_Workshop_forget)
def m_Workshop_become : M Fl :=
 (sSeq (sSet 2 (eFld "_duel" (eVar 0)))
 (sSeq (sIf (tV (eCop .ne (eTup (aCons (eFld "sides" (eVar 2)) (aCons (eFld "ranks" (eVar 2)) aNil))) (eTup (aCons (eFld "sides" (eVar 1)) (aCons (eFld "ranks" (eVar 1)) aNil)))))
 (sExpr (eMeth "Workshop" "forget" "Workshop.forget" 2 (eVar 0) (aCons (eFz (oLC (iRange (aCons (eFld "letters" (eVar 1)) aNil)) (tgName 3) (ret true) (eVar 3) [3])) aNil)))
 sNext)
 (sSeq (sFor (iPairsC (eMeth "Duel" "rows" "Duel.rows" 1 (eVar 1) aNil)) (tgTup 2 (tgsCons (tgName 4) (tgsCons (tgName 5) tgsNil)))
 (sIf (tV (eCop .ne (eVar 5) (eMeth "Duel" "row" "Duel.row" 3 (eVar 2) (aCons (eGet (mSlot 4) (eC (.int 0))) (aCons (eGet (mSlot 4) (eC (.int 1))) aNil)))))
 (sExpr (eMeth "Workshop" "forget" "Workshop.forget" 2 (eVar 0) (aCons (eBop .add (eMeth "Workshop" "users" "Workshop.users" 3 (eVar 0) (aCons (eGet (mSlot 4) (eC (.int 1))) (aCons (eVar 2) aNil))) (eMeth "Workshop" "users" "Workshop.users" 3 (eVar 0) (aCons (eGet (mSlot 4) (eC (.int 1))) (aCons (eVar 1) aNil)))) aNil)))
 sNext))
 (sFldS "Workshop" "_duel" (eVar 0) (eVar 1)))))
def t_Workshop_become : Nat × Nat × M Fl := (2, 6, m_Workshop_become)
def m_Workshop_edit : M Fl :=
 (sSeq (sExpr (eApp (hdl (eFld "_past" (eVar 0))) (eFld "_duel" (eVar 0))))
 (sSeq (sFldS "Workshop" "_future" (eVar 0) (eFz (oLst aNil)))
 (sExpr (eMeth "Workshop" "become" "Workshop.become" 2 (eVar 0) (aCons (eVar 1) aNil)))))
def t_Workshop_edit : Nat × Nat × M Fl := (2, 2, m_Workshop_edit)
def m_Workshop_undo : M Fl :=
 (sSeq (sIf (tNot' (tTru (hdl (eFld "_past" (eVar 0)))))
 fail
 sNext)
 (sSeq (sExpr (eApp (hdl (eFld "_future" (eVar 0))) (eFld "_duel" (eVar 0))))
 (sExpr (eMeth "Workshop" "become" "Workshop.become" 2 (eVar 0) (aCons (ePop (hdl (eFld "_past" (eVar 0)))) aNil)))))
def t_Workshop_undo : Nat × Nat × M Fl := (1, 1, m_Workshop_undo)
def m_Workshop_again : M Fl :=
 (sSeq (sIf (tNot' (tTru (hdl (eFld "_future" (eVar 0)))))
 fail
 sNext)
 (sSeq (sExpr (eApp (hdl (eFld "_past" (eVar 0))) (eFld "_duel" (eVar 0))))
 (sExpr (eMeth "Workshop" "become" "Workshop.become" 2 (eVar 0) (aCons (ePop (hdl (eFld "_future" (eVar 0)))) aNil)))))
def t_Workshop_again : Nat × Nat × M Fl := (1, 1, m_Workshop_again)
def m_Workshop_ready : M Fl :=
 (sSeq fail
 (sFor (iItems (eVar 1)) (tgName 2)
 (sItem (hdl (eFld "_counts" (eVar 0))) (eVar 2) (eBop .add (eGet (hdl (eFld "_counts" (eVar 0))) (eVar 2)) (eC (.int 1))))))
def t_Workshop_ready : Nat × Nat × M Fl := (1, 3, m_Workshop_ready)
def m_Workshop_families : M Fl :=
 (sSeq (sExpr (eMeth "Workshop" "ready" "Workshop.ready" 1 (eVar 0) aNil))
 (sSeq (sSet 2 (eGet (hdl (eFld "_known" (eVar 0))) (eVar 1)))
 (sRet (eFz (oDC true (iItems (eSorted (mSlot 2))) (tgName 3) (ret true) (eVar 3) (eCall "told_family" 1 (aCons (eGet (mSlot 2) (eVar 3)) aNil)) [3])))))
def t_Workshop_families : Nat × Nat × M Fl := (2, 4, m_Workshop_families)
def m_Workshop_reckoned : M Fl :=
 (sRet (eTupleOf (hdl (eFld "_counts" (eVar 0)))))
def t_Workshop_reckoned : Nat × Nat × M Fl := (1, 1, m_Workshop_reckoned)
def m_law_few : M Fl :=
 (sSeq (sAsgT (eCall "_law_choice" 2 (aCons (eVar 0) (aCons (eFz (oLst (aCons (eTup (aCons (eC (.int 1)) (aCons (eC (.int 1)) aNil))) (aCons (eTup (aCons (eC (.int 1)) (aCons (eC (.int 3)) aNil))) (aCons (eTup (aCons (eC (.int 2)) (aCons (eC (.int 1)) aNil))) (aCons (eTup (aCons (eC (.int 2)) (aCons (eC (.int 2)) aNil))) (aCons (eTup (aCons (eC (.int 2)) (aCons (eC (.int 2)) aNil))) (aCons (eTup (aCons (eC (.int 2)) (aCons (eC (.int 3)) aNil))) (aCons (eTup (aCons (eC (.int 3)) (aCons (eC (.int 1)) aNil))) aNil))))))))) aNil))) (tgTup 2 (tgsCons (tgName 1) (tgsCons (tgName 2) tgsNil))))
 (sRet (eCall "_law_duel" 4 (aCons (eVar 0) (aCons (eVar 1) (aCons (eVar 2) (aCons (eCall "_law_choice" 2 (aCons (eVar 0) (aCons (eFz (oLst (aCons (eC (.int 2)) (aCons (eC (.int 2)) (aCons (eC (.int 3)) aNil))))) aNil))) aNil)))))))
def t_law_few : Nat × Nat × M Fl := (1, 3, m_law_few)
def m_law_uses : M Fl :=
 (sSeq (sOwn 2 (oLst aNil))
 (sSeq (sOwn 3 (oLst (aCons (eVar 1) aNil)))
 (sSeq (sFor (iRange (aCons (eC (.int 9)) aNil)) (tgName 4)
 (sIf (tV (eCop .ne (eVar 3) (eFz (oLst aNil))))
 (sSeq (sSet 5 (ePop (mSlot 3)))
 (sFor (iItems (eSorted (mSlot 0))) (tgName 6)
 (sFor (iItems (eGet (mSlot 0) (eVar 6))) (tgName 7)
 (sFor (iItems (eGet (mSlot 7) (eC (.int 1)))) (tgName 8)
 (sIf (tAnd' (tV (eCop .eq (eGet (mSlot 6) (eC (.int 1))) (eVar 5))) (tV (eMem true (eVar 8) (mSlot 2))))
 (sSeq (sExpr (eApp (mSlot 2) (eVar 8)))
 (sExpr (eApp (mSlot 3) (eVar 8))))
 sNext)))))
 sNext))
 (sRet (eVar 2)))))
def t_law_uses : Nat × Nat × M Fl := (2, 9, m_law_uses)
def m_law_users : M Fl :=
 (sRet (eFz (oLC (iRange (aCons (eVar 1) aNil)) (tgName 3) (tOr' (tV (eCop .eq (eVar 3) (eVar 2))) (tV (eMem false (eVar 2) (hdl (eCall "_law_uses" 2 (aCons (eVar 0) (aCons (eVar 3) aNil))))))) (eVar 3) [3])))
def t_law_users : Nat × Nat × M Fl := (3, 4, m_law_users)
def m_law_whole : M Fl :=
 (sRet (eFz (oDisp (pCons (eC (.str "sides")) (eVar 0) (pCons (eC (.str "ranks")) (eVar 1) (pCons (eC (.str "ends")) (eVar 2) (pCons (eC (.str "letters")) (eVar 3) (pCons (eC (.str "rows")) (eVar 4) pNil))))))))
def t_law_whole : Nat × Nat × M Fl := (5, 5, m_law_whole)
def m_law_becomes : M Fl :=
 (sSeq (sSet 2 (eGet (mSlot 0) (eC (.str "now"))))
 (sSeq (sSet 3 (eGet (mSlot 0) (eC (.str "known"))))
 (sSeq (sIf (tV (eCop .ne (eTup (aCons (eGet (mSlot 2) (eC (.str "sides"))) (aCons (eGet (mSlot 2) (eC (.str "ranks"))) aNil))) (eTup (aCons (eGet (mSlot 1) (eC (.str "sides"))) (aCons (eGet (mSlot 1) (eC (.str "ranks"))) aNil)))))
 (sSet 3 (eFz (oLst aNil)))
 sNext)
 (sSeq (sFor (iItems (eSorted (hdl (eGet (mSlot 1) (eC (.str "rows")))))) (tgName 4)
 (sIf (tV (eCop .ne (eGet (hdl (eGet (mSlot 1) (eC (.str "rows")))) (eVar 4)) (eGet (hdl (eGet (mSlot 2) (eC (.str "rows")))) (eVar 4))))
 (sSeq (sSet 5 (eBop .add (eCall "_law_users" 3 (aCons (eGet (mSlot 2) (eC (.str "rows"))) (aCons (eGet (mSlot 1) (eC (.str "letters"))) (aCons (eGet (mSlot 4) (eC (.int 1))) aNil)))) (eCall "_law_users" 3 (aCons (eGet (mSlot 1) (eC (.str "rows"))) (aCons (eGet (mSlot 1) (eC (.str "letters"))) (aCons (eGet (mSlot 4) (eC (.int 1))) aNil))))))
 (sOwn 3 (oLC (iItems (eVar 3)) (tgName 6) (tV (eMem true (eVar 6) (mSlot 5))) (eVar 6) [6])))
 sNext))
 (sSeq (sItem (mSlot 0) (eC (.str "known")) (eVar 3))
 (sItem (mSlot 0) (eC (.str "now")) (eVar 1)))))))
def t_law_becomes : Nat × Nat × M Fl := (2, 7, m_law_becomes)
def m_law_model : M Fl :=
 (sSeq (sSet 1 (eCall "_law_whole" 5 (aCons (eFld "sides" (eVar 0)) (aCons (eFld "ranks" (eVar 0)) (aCons (eFld "ends" (eVar 0)) (aCons (eFld "letters" (eVar 0)) (aCons (eCall "_law_rows" 1 (aCons (eVar 0) aNil)) aNil)))))))
 (sRet (eFz (oDisp (pCons (eC (.str "now")) (eVar 1) (pCons (eC (.str "known")) (eFz (oLst aNil)) (pCons (eC (.str "counts")) (eFz (oLC (iRange (aCons (eFld "letters" (eVar 0)) aNil)) (tgName 2) (ret true) (eC (.int 0)) [2])) (pCons (eC (.str "past")) (eFz (oLst aNil)) (pCons (eC (.str "future")) (eFz (oLst aNil)) pNil)))))))))
def t_law_model : Nat × Nat × M Fl := (1, 3, m_law_model)
def m_law_asked : M Fl :=
 (sFor (iRange (aCons (eGet (hdl (eGet (mSlot 0) (eC (.str "now")))) (eC (.str "letters"))) aNil)) (tgName 1)
 (sIf (tV (eMem true (eVar 1) (hdl (eGet (mSlot 0) (eC (.str "known"))))))
 (sSeq (sItem (mSlot 0) (eC (.str "counts")) (eBop .add (eBop .add (eSl (hdl (eGet (mSlot 0) (eC (.str "counts")))) pNone (pSome (eVar 1))) (eFz (oLst (aCons (eBop .add (eGet (hdl (eGet (mSlot 0) (eC (.str "counts")))) (eVar 1)) (eC (.int 1))) aNil)))) (eSl (hdl (eGet (mSlot 0) (eC (.str "counts")))) (pSome (eBop .add (eVar 1) (eC (.int 1)))) pNone)))
 (sItem (mSlot 0) (eC (.str "known")) (eBop .add (eGet (mSlot 0) (eC (.str "known"))) (eFz (oLst (aCons (eVar 1) aNil))))))
 sNext))
def t_law_asked : Nat × Nat × M Fl := (1, 2, m_law_asked)
def m_law_edited : M Fl :=
 (sSeq (sItem (mSlot 0) (eC (.str "past")) (eBop .add (eGet (mSlot 0) (eC (.str "past"))) (eFz (oLst (aCons (eGet (mSlot 0) (eC (.str "now"))) aNil)))))
 (sSeq (sItem (mSlot 0) (eC (.str "future")) (eFz (oLst aNil)))
 (sExpr (eCall "_law_becomes" 2 (aCons (eVar 0) (aCons (eVar 1) aNil))))))
def t_law_edited : Nat × Nat × M Fl := (2, 2, m_law_edited)
def m_law_undone : M Fl :=
 (sSeq (sIf (tV (eCop .eq (eGet (mSlot 0) (eC (.str "past"))) (eFz (oLst aNil))))
 (sRet (eC (.str "nothing to undo")))
 sNext)
 (sSeq (sSet 1 (eGet (mSlot 0) (eC (.str "past"))))
 (sSeq (sItem (mSlot 0) (eC (.str "future")) (eBop .add (eGet (mSlot 0) (eC (.str "future"))) (eFz (oLst (aCons (eGet (mSlot 0) (eC (.str "now"))) aNil)))))
 (sSeq (sItem (mSlot 0) (eC (.str "past")) (eSl (mSlot 1) pNone (pSome (eBop .sub (eLen (mSlot 1)) (eC (.int 1))))))
 (sSeq (sExpr (eCall "_law_becomes" 2 (aCons (eVar 0) (aCons (eGet (mSlot 1) (eBop .sub (eLen (mSlot 1)) (eC (.int 1)))) aNil))))
 (sRet (eC (.str "done"))))))))
def t_law_undone : Nat × Nat × M Fl := (1, 2, m_law_undone)
def m_law_redone : M Fl :=
 (sSeq (sIf (tV (eCop .eq (eGet (mSlot 0) (eC (.str "future"))) (eFz (oLst aNil))))
 (sRet (eC (.str "nothing to make again")))
 sNext)
 (sSeq (sSet 1 (eGet (mSlot 0) (eC (.str "future"))))
 (sSeq (sItem (mSlot 0) (eC (.str "past")) (eBop .add (eGet (mSlot 0) (eC (.str "past"))) (eFz (oLst (aCons (eGet (mSlot 0) (eC (.str "now"))) aNil)))))
 (sSeq (sItem (mSlot 0) (eC (.str "future")) (eSl (mSlot 1) pNone (pSome (eBop .sub (eLen (mSlot 1)) (eC (.int 1))))))
 (sSeq (sExpr (eCall "_law_becomes" 2 (aCons (eVar 0) (aCons (eGet (mSlot 1) (eBop .sub (eLen (mSlot 1)) (eC (.int 1)))) aNil))))
 (sRet (eC (.str "done"))))))))
def t_law_redone : Nat × Nat × M Fl := (1, 2, m_law_redone)
def m_law_stepped : M Fl :=
 fail
def t_law_stepped : Nat × Nat × M Fl := (2, 3, m_law_stepped)
def m_law_edit : M Fl :=
 (sSeq fail
 (sSeq (sSet 4 (eLen (hdl (eGet (mSlot 3) (eC (.str "sides"))))))
 (sSeq (sSet 5 (eCall "_law_draw" 2 (aCons (eVar 0) (aCons (eC (.int 6)) aNil))))
 (sSeq (sIf (tV (eCop .eq (eVar 5) (eC (.int 3))))
 (sSeq (sItem (mSlot 3) (eC (.str "sides")) (eTupleOf (hdl (eFz (oLC (iRange (aCons (eVar 4) aNil)) (tgName 6) (ret true) (eCall "_law_draw" 2 (aCons (eVar 0) (aCons (eC (.int 2)) aNil))) [6])))))
 (sExpr (eMeth "Workshop" "set_sides" "Workshop.set_sides" 2 (eVar 1) (aCons (eGet (mSlot 3) (eC (.str "sides"))) aNil))))
 (sIf (tV (eCop .eq (eVar 5) (eC (.int 4))))
 (sSeq (sItem (mSlot 3) (eC (.str "ranks")) (eTupleOf (hdl (eFz (oLC (iRange (aCons (eVar 4) aNil)) (tgName 6) (ret true) (eCall "_law_draw" 2 (aCons (eVar 0) (aCons (eC (.int 3)) aNil))) [6])))))
 (sExpr (eMeth "Workshop" "set_ranks" "Workshop.set_ranks" 2 (eVar 1) (aCons (eGet (mSlot 3) (eC (.str "ranks"))) aNil))))
 (sIf (tV (eCop .eq (eVar 5) (eC (.int 5))))
 (sSeq (sItem (mSlot 3) (eC (.str "ends")) (eTupleOf (hdl (eFz (oLC (iRange (aCons (eVar 4) aNil)) (tgName 6) (ret true) (eCall "_law_draw" 2 (aCons (eVar 0) (aCons (eC (.int 2)) aNil))) [6])))))
 (sExpr (eMeth "Workshop" "set_ends" "Workshop.set_ends" 2 (eVar 1) (aCons (eGet (mSlot 3) (eC (.str "ends"))) aNil))))
 (sSeq (sSet 7 (eTup (aCons (eCall "_law_draw" 2 (aCons (eVar 0) (aCons (eVar 4) aNil))) (aCons (eCall "_law_draw" 2 (aCons (eVar 0) (aCons (eGet (mSlot 3) (eC (.str "letters"))) aNil))) aNil))))
 (sSeq (sSet 8 (eCall "_law_row" 4 (aCons (eVar 0) (aCons (eVar 4) (aCons (eGet (mSlot 3) (eC (.str "letters"))) (aCons (eC (.int 3)) aNil))))))
 (sSeq (sIf (tV (eCop .eq (eVar 5) (eC (.int 2))))
 (sSet 8 (eGet (hdl (eGet (mSlot 3) (eC (.str "rows")))) (eVar 7)))
 sNext)
 (sSeq fail
 (sSeq (sItem (mSlot 9) (eVar 7) (eVar 8))
 (sSeq (sItem (mSlot 3) (eC (.str "rows")) (eVar 9))
 (sExpr (eMeth "Workshop" "set_row" "Workshop.set_row" 4 (eVar 1) (aCons (eGet (mSlot 7) (eC (.int 0))) (aCons (eGet (mSlot 7) (eC (.int 1))) (aCons (eVar 8) aNil))))))))))))))
 (sExpr (eCall "_law_edited" 2 (aCons (eVar 2) (aCons (eVar 3) aNil))))))))
def t_law_edit : Nat × Nat × M Fl := (3, 10, m_law_edit)
def m_law_rows_of : M Fl :=
 (sSeq (sOwn 1 (oDic false))
 (sSeq (sFor (iRange (aCons (eLen (hdl (eFld "sides" (eVar 0)))) aNil)) (tgName 2)
 (sFor (iRange (aCons (eFld "letters" (eVar 0)) aNil)) (tgName 3)
 (sItem (mSlot 1) (eTup (aCons (eVar 2) (aCons (eVar 3) aNil))) (eMeth "Duel" "row" "Duel.row" 3 (eVar 0) (aCons (eVar 2) (aCons (eVar 3) aNil))))))
 (sRet (eVar 1))))
def t_law_rows_of : Nat × Nat × M Fl := (1, 4, m_law_rows_of)
end EL.PM
set_option Elab.async false
set_option linter.all false
set_option maxRecDepth 100000
/-! EM3: the drawn source. -/
namespace EL
open PySem (Str PyData)

theorem atI_nat {α : Type} {xs : List α} {n : Nat} : L2.atI xs (n : Int) = xs[n]? := by
  unfold L2.atI L2.ixN
  simp only [Int.natCast_nonneg, if_true]
  by_cases h : (n : Int) < xs.length
  · rw [if_pos h]; simp
  · rw [if_neg h]
    have : xs.length ≤ n := by omega
    simp [List.getElem?_eq_none this]
@[simp] theorem atI_zero {α : Type} {xs : List α} : L2.atI xs 0 = xs[0]? := atI_nat (n := 0)
@[simp] theorem atI_one {α : Type} {xs : List α} : L2.atI xs 1 = xs[1]? := atI_nat (n := 1)
@[simp] theorem atI_two {α : Type} {xs : List α} : L2.atI xs 2 = xs[2]? := atI_nat (n := 2)
@[simp] theorem bop_add {i j : Int} : bop .add (.int i) (.int j) = some (.int (i + j)) := rfl
@[simp] theorem bop_sub {i j : Int} : bop .sub (.int i) (.int j) = some (.int (i - j)) := rfl
theorem bop_mul {i j : Int} (h : -(2 ^ 64) < i ∧ i < 2 ^ 64 ∨ -(2 ^ 64) < j ∧ j < 2 ^ 64) : bop .mul (.int i) (.int j) = some (.int (i * j)) := by
  unfold bop bInt
  exact if_pos (decide_eq_true h)
theorem bop_mod {i j : Int} (h : j ≠ 0) : bop .mod (.int i) (.int j) = some (.int (i.fmod j)) := by
  unfold bop bInt
  exact if_pos (decide_eq_true h)
theorem bop_fdiv {i j : Int} (h : j ≠ 0) (h2 : j.natAbs < 1073741824) : bop .fdiv (.int i) (.int j) = some (.int (i.fdiv j)) := by
  unfold bop bInt
  exact if_pos (decide_eq_true ⟨h, h2⟩)
@[simp] theorem cop_lt {i j : Int} : cop .lt (.int i) (.int j) = some (decide (i < j)) := rfl
@[simp] theorem cop_le {i j : Int} : cop .le (.int i) (.int j) = some (decide (i ≤ j)) := rfl
@[simp] theorem cop_gt {i j : Int} : cop .gt (.int i) (.int j) = some (decide (j < i)) := rfl
@[simp] theorem cop_ge {i j : Int} : cop .ge (.int i) (.int j) = some (decide (j ≤ i)) := rfl
@[simp] theorem int1_int {i : Int} : int1 (.int i) = some (.int i) := rfl
/-- the drawn source: cell 0 -/
abbrev srcO (a b c : Int) : EO := .lst [.int a, .int b, .int c]
/-- _law_draw -/
theorem draw {tt : Tab} (ht : tt "_law_draw" = some PM.t_law_draw) {n : Nat} {rest : List EO} {a b c m : Int} (h0 : 0 < m) (h1 : m < 1073741824) {Q : U → List EO → Prop} {E : Str → Str → U → List EO → Prop}
    (h : ∀ v a' b' : Int, 0 ≤ v → v < m → Q (.int v) (srcO a' b' c :: rest)) : wq (phiT tt (n + 1)) "_law_draw" [.ref 0, .int m] (srcO a b c :: rest) Q E := by
  have key : ∀ x : Int, 0 ≤ x.fmod m ∧ x.fmod m < m := fun x => ⟨Int.fmod_nonneg_of_pos _ h0, Int.fmod_lt_of_pos _ h0⟩
  rw [wq_call ht rfl]
  unfold PM.m_law_draw mkEnv
  by_cases hlt : a < m
  · simp [getU, seqOf, hlt, itemS, lstH, setH, bop_mul, bop_mod, bop_fdiv, Int.ne_of_gt h0, L2.ixN, show m.natAbs < 1073741824 by omega]
    exact h _ _ _ (key _).1 (key _).2
  · simp [getU, seqOf, hlt, itemS, lstH, setH, bop_mul, bop_mod, bop_fdiv, Int.ne_of_gt h0, L2.ixN, show m.natAbs < 1073741824 by omega]
    exact h _ _ _ (key _).1 (key _).2
theorem seqOf_scr {s : S} {ns : List Int} : seqOf s (.u (.scr ns)) = some (false, ns.map U.int) := rfl
theorem getU_scr {s : S} {ns : List Int} {j : Nat} (h : j < ns.length) : getU s (.u (.scr ns)) (.int (j : Int)) = some (.int ns[j]) := by
  show L2.atI (ns.map U.int) (j : Int) = _
  rw [atI_nat, List.getElem?_map, List.getElem?_eq_getElem h]
  rfl
theorem lenU_scr {s : S} {ns : List Int} : lenU s (.u (.scr ns)) = some (.int ns.length) := by
  show some (U.int ((ns.map U.int).length : Nat)) = _
  rw [List.length_map]
theorem rng1_of {j : Int} (h1 : -(2 ^ 62) ≤ j) (h2 : j < 2 ^ 62) : rng1 [.int j] = some (rangeU 0 j.toNat) := if_pos ⟨h1, h2⟩
theorem mem_rangeU {lo : Int} {n : Nat} {u : U} (h : u ∈ rangeU lo n) : ∃ j : Nat, j < n ∧ u = .int (lo + j) := by
  obtain ⟨j, hj, rfl⟩ := List.mem_map.mp h
  exact ⟨j, by simpa using hj, rfl⟩
theorem src_loop {tt : Tab} {n : Nat} {ns : List Int} {k cell : Int} {hp : List EO} {Q : Fl → S → Prop} {E : Str → Str → U → List EO → Prop} : ∀ (us : List U) (x : Int) (v : SV), (∀ u ∈ us, ∃ j : Nat, j < ns.length ∧ u = .int (0 + j)) →
    (∀ (x : Int) (v : SV), Q .nx ⟨[.val (.scr ns), .val (.int k), .val (.int cell), .val (.int x), v], hp⟩) →
    wp (forL (fun u => seqT (tgName 4 u) (sSet 3 (eBop .mod (eInt1 (eBop .add (eBop .mul (eVar 3) (eC (.int 31))) (eGet (mSlot 0) (eVar 4)))) (eC (.int 1000003))))) us) (phiT tt n) ⟨[.val (.scr ns), .val (.int k), .val (.int cell), .val (.int x), v], hp⟩ Q E
  | [], x, v, _, h => wp_forL_nil.mpr (h x v)
  | u :: us, x, v, hu, h => by
    obtain ⟨j, hj, rfl⟩ := hu u (List.mem_cons_self ..)
    rw [Int.zero_add]
    have ih := fun x v => src_loop (tt := tt) (n := n) (Q := Q) (E := E) us x v (fun u hu' => hu u (List.mem_cons_of_mem _ hu')) h
    simp only [↓wp_forL_cons, ↓wp_seqT, ↓wp_tgName, ↓wp_sSet, ↓wp_eBop, ↓wp_eInt1, ↓wp_eVar, ↓wp_eC, ↓wp_eGet, ↓wp_mSlot, List.set_cons_succ, List.set_cons_zero, List.getElem?_cons_succ, List.getElem?_cons_zero, List.length_cons, List.length_nil, Nat.reduceAdd, Nat.reduceLT, true_and, bop_mul (show -(2 ^ 64) < x ∧ x < 2 ^ 64 ∨ -(2 ^ 64) < (31 : Int) ∧ (31 : Int) < 2 ^ 64 by omega), bop_add, oB_some, getU_scr hj, int1_int, bop_mod (show (1000003 : Int) ≠ 0 by decide)]
    exact ih _ _
/-- _law_source at 0, the first cell -/
theorem source {tt : Tab} (ht : tt "_law_source" = some PM.t_law_source) {n : Nat} {ns : List Int} (hl : ns.length < 1000) {Q : U → List EO → Prop} {E : Str → Str → U → List EO → Prop}
    (h : ∀ a b c : Int, Q (.ref 0) [srcO a b c]) : wq (phiT tt (n + 1)) "_law_source" [.scr ns, .int 0] [] Q E := by
  rw [wq_call ht rfl]
  unfold PM.m_law_source mkEnv
  have hr : rng1 [.int (ns.length : Int)] = some (rangeU 0 ns.length) := by rw [rng1_of (by omega) (by omega), Int.toNat_natCast]
  have hm : ∀ u ∈ rangeU 0 ns.length, ∃ j : Nat, j < ns.length ∧ u = .int (0 + j) := fun u hu => mem_rangeU hu
  have m1 : bop .mul (.int 17) (.int 0) = some (.int 0) := bop_mul (by omega)
  have g0 : ∀ (x : Int) (xs : List Int) (s : S), getU s (.u (.scr (x :: xs))) (.int 0) = some (.int x) := fun x xs s => getU_scr (ns := x :: xs) (j := 0) (by simp)
  have hd : ∀ x : Int, bop .mod (.int x) (.int 1000003) = some (.int (x.fmod 1000003)) := fun x => bop_mod (by decide)
  have h2 : ∀ x : Int, bop .mul (.int (-2)) (.int x) = some (.int (-2 * x)) := fun x => bop_mul (by omega)
  have fin : ∀ (v : SV) (c y : Int), wp (sRet (eCell (oLst (aCons (eVar 2) (aCons (eBop .add (eBop .mod (eInt1 (eVar 2)) (eC (.int 1000003))) (eVar 3)) (aCons (eVar 1) aNil)))))) (phiT tt n) ⟨[.val (.scr ns), .val (.int 0), .val (.int c), .val (.int y), v], []⟩ (fun f s => match f with
    | .rt u => Q u s.hp
    | .nx => Q .non s.hp
    | _ => False) E := fun v c y => by
    simp [hd, cellOf, line]
    exact h _ _ _
  have h17 : ∀ (c : Int), wp (sSeq (sFor (iRange (aCons (eLen (mSlot 0)) aNil)) (tgName 4)
 (sSet 3 (eBop .mod (eInt1 (eBop .add (eBop .mul (eVar 3) (eC (.int 31))) (eGet (mSlot 0) (eVar 4)))) (eC (.int 1000003)))))
 (sRet (eCell (oLst (aCons (eVar 2) (aCons (eBop .add (eBop .mod (eInt1 (eVar 2)) (eC (.int 1000003))) (eVar 3)) (aCons (eVar 1) aNil))))))) (phiT tt n) ⟨[.val (.scr ns), .val (.int 0), .val (.int c), .val (.int 0), .no], []⟩ (fun f s => match f with
    | .rt u => Q u s.hp
    | .nx => Q .non s.hp
    | _ => False) E := fun c => by
    simp only [↓wp_sSeq, ↓wp_sFor, ↓wp_iRange, ↓wp_aCons, ↓wp_aNil, ↓wp_eLen, ↓wp_mSlot, List.getElem?_cons_zero, lenU_scr, oB_some, hr]
    exact src_loop _ _ _ hm fun x v => fin v c x
  cases ns with
  | nil => simpa [lenU_scr, m1] using h17 0
  | cons x xs =>
    by_cases hx : x < 0
    · have h3 := h17 (-2 * x + 1)
      clear h17 fin h hr hm
      simp [lenU_scr, g0, hx, h2, m1]
      simp [lenU_scr] at h3
      exact h3
    · have h3 := h17 x
      clear h17 fin h hr hm
      simp [lenU_scr, g0, hx, h2, m1]
      simp [lenU_scr] at h3
      exact h3
end EL
set_option Elab.async false
set_option linter.all false
set_option maxRecDepth 100000
/-! EM4: Lean values as E values; ==, in, sorted of them. -/
namespace EL
open PySem (Str PyData)
open PySem.W (Datum DatumOrd Tup)

class Enc (α : Type) [DecidableEq α] [Datum α] where
  u : α → U
  ud : ∀ a, toD (u a) = some (Datum.toD a)
  can : ∀ a : α, (Datum.toD a).canLay0 = true
open Enc (u)
instance : Enc Int := ⟨.int, fun a => by simp only [toD]; rfl, fun a => rfl⟩
instance : Enc Bool := ⟨.bl, fun a => by simp only [toD]; rfl, fun a => rfl⟩
instance : Enc Unit := ⟨fun _ => .non, fun a => by simp only [toD]; rfl, fun a => rfl⟩
section
variable {α β : Type} [DecidableEq α] [Datum α] [Enc α] [DecidableEq β] [Datum β] [Enc β]
theorem toDs_map : ∀ xs : List α, toDs (xs.map u) = some (xs.map Datum.toD)
  | [] => by simp only [List.map_nil, toDs]
  | x :: xs => by simp only [List.map_cons, toDs, Enc.ud, toDs_map xs]
theorem can_map : ∀ xs : List α, PyData.canLayAll0 (xs.map Datum.toD) = true
  | [] => rfl
  | x :: xs => by rw [List.map_cons, PyData.canLayAll0, Enc.can, can_map xs]; rfl
instance : Enc (List α) := ⟨fun xs => .lst (xs.map u), fun xs => by simp only [toD, toDs_map, Option.map_some]; rfl, fun xs => can_map xs⟩
instance : Enc (Tup α) := ⟨fun xs => .tup (xs.items.map u), fun xs => by simp only [toD, toDs_map, Option.map_some]; rfl, fun xs => can_map xs.items⟩
instance : Enc (α × β) := ⟨fun p => .tup [u p.1, u p.2], fun p => by simp only [toD, toDs, Enc.ud, Option.map_some]; rfl, fun p => by
  show PyData.canLayAll0 [_, _] = true
  simp only [PyData.canLayAll0, Enc.can, Bool.and_self]⟩
theorem u_int (i : Int) : u i = U.int i := rfl
theorem u_pair (p : α × β) : u p = U.tup [u p.1, u p.2] := rfl
theorem u_tup (p : Tup α) : u p = U.tup (p.items.map u) := rfl
theorem toS_enc (h : Datum.depth α ≤ 64) (a : α) : toS (u a) = some (Datum.toD a) := by
  unfold toS
  rw [Enc.ud]
  have : PySem.SeqAt.shaped (Datum.toD a) = true := by
    unfold PySem.SeqAt.shaped
    rw [Enc.can, Bool.true_and]
    exact decide_eq_true (Nat.le_trans (Datum.depth_le a) h)
  simp only [this, if_true]
theorem eqU_enc (h : Datum.depth α ≤ 64) (a b : α) : eqU (u a) (u b) = some (decide (a = b)) := by
  unfold eqU
  rw [toS_enc h, toS_enc h]
  simp only [Datum.eqv]
theorem cop_eq_enc (h : Datum.depth α ≤ 64) (a b : α) : cop .eq (u a) (u b) = some (decide (a = b)) := eqU_enc h a b
theorem cop_ne_enc (h : Datum.depth α ≤ 64) (a b : α) : cop .ne (u a) (u b) = some (!decide (a = b)) := by
  show (eqU (u a) (u b)).map (!·) = _
  rw [eqU_enc h]; rfl
theorem inU_enc (h : Datum.depth α + 1 ≤ 64) (a : α) (bs : List α) : inU (u a) (bs.map u) = some (decide (a ∈ bs)) := by
  have h1 : toS (U.lst (bs.map u)) = some (.list (bs.map Datum.toD)) := toS_enc (α := List α) h bs
  unfold inU
  rw [toS_enc (by omega), h1]
  simp only
  congr 1
  rw [Bool.eq_iff_iff, List.any_eq_true, decide_eq_true_eq]
  constructor
  · rintro ⟨d, hd, e⟩
    obtain ⟨b, hb, rfl⟩ := List.mem_map.mp hd
    rw [Datum.eqv, decide_eq_true_eq] at e
    rw [← e]; exact hb
  · intro hb
    exact ⟨_, List.mem_map.mpr ⟨a, hb, rfl⟩, by rw [Datum.eqv]; simp⟩
end
section
variable {α : Type} [DecidableEq α] [DatumOrd α] [Enc α]
theorem dOf_enc (a : α) : dOf (u a) = Datum.toD a := by unfold dOf; rw [Enc.ud]; rfl
theorem leU_enc (a b : α) : leU (u a) (u b) = !DatumOrd.lt b a := by
  show (!PySem.W.dataLt (dOf (u b)) (dOf (u a))) = _
  rw [dOf_enc, dOf_enc, DatumOrd.lt_eq]
/-- sorted of what is sorted -/
theorem sortU_sorted (h : Datum.depth α ≤ 64) {as : List α} (hl : as.length ≤ line) (ht : (as.all fun a => isTup1 (Datum.toD a)) = true ∨ (as.all fun a => noTup (Datum.toD a)) = true) (hs : as.Pairwise fun a b => DatumOrd.lt b a = false) : sortU (as.map u) = some (.lst (as.map u)) := by
  have h1 : (as.map u).all (fun z => (toS z).isSome) = true := by
    rw [List.all_map, List.all_eq_true]; intro a _; simp [toS_enc h]
  have h2 : (as.map u).all (fun z => (as.map u).all fun v => PySem.W.alike (dOf z) (dOf v)) = true := by
    rw [List.all_map, List.all_eq_true]; intro a _
    simp only [Function.comp, List.all_map, List.all_eq_true]
    intro b _
    show PySem.W.alike (dOf (u a)) (dOf (u b)) = true
    rw [dOf_enc, dOf_enc]; exact DatumOrd.alike a b
  have h3 : ((as.map u).all (fun z => isTup1 (dOf z)) || (as.map u).all fun z => noTup (dOf z)) = true := by
    rw [List.all_map, List.all_map, Bool.or_eq_true]
    rcases ht with z | z
    · left
      rw [List.all_eq_true] at z ⊢; intro a ha; show isTup1 (dOf (u a)) = true; rw [dOf_enc]; exact z a ha
    · right
      rw [List.all_eq_true] at z ⊢; intro a ha; show noTup (dOf (u a)) = true; rw [dOf_enc]; exact z a ha
  have ok : sortOk (as.map u) = true := by
    unfold sortOk
    rw [h1, h2, h3, List.length_map]
    simpa using hl
  unfold sortU
  rw [if_pos ok]
  rw [List.mergeSort_of_pairwise]
  rw [List.pairwise_map]
  refine hs.imp fun {a b} q => ?_
  rw [leU_enc, q]
  rfl
end
/-! ### masks -/
theorem bitAnd_nat (a b : Nat) : PySem.Builtin.bitAnd (a : Int) (b : Int) = ((a &&& b : Nat) : Int) := by
  rw [PyProof.Rows.bitAnd_pp (Int.natCast_nonneg a) (Int.natCast_nonneg b)]; simp
theorem bitOr_nat (a b : Nat) : PySem.Builtin.bitOr (a : Int) (b : Int) = ((a ||| b : Nat) : Int) := by
  rw [L2.bitOr_nn (Int.natCast_nonneg a) (Int.natCast_nonneg b)]; simp
@[simp] theorem bop_band {a b : Nat} : bop .band (.int a) (.int b) = some (.int ((a &&& b : Nat) : Int)) := by
  show some (U.int (PySem.Builtin.bitAnd a b)) = _
  rw [bitAnd_nat]
@[simp] theorem bop_bor {a b : Nat} : bop .bor (.int a) (.int b) = some (.int ((a ||| b : Nat) : Int)) := by
  show some (U.int (PySem.Builtin.bitOr a b)) = _
  rw [bitOr_nat]
theorem bop_shl {i : Int} {b : Nat} (h1 : b ≤ 1000000) (h2 : i.natAbs < 2 ^ 64) : bop .shl (.int i) (.int b) = some (.int (i * 2 ^ b)) := by
  have : bop .shl (.int i) (.int b) = some (.int (i * 2 ^ (b : Int).toNat)) := by
    unfold bop bInt
    exact if_pos (decide_eq_true ⟨by omega, by omega, h2⟩)
  rw [this, Int.toNat_natCast]
end EL
set_option Elab.async false
set_option linter.all false
set_option maxRecDepth 100000
/-! EM5: the masks of claims. -/
namespace EL
open PySem (Str PyData)
open PySem.W (Datum DatumOrd Tup)
open Enc (u)

def toP (p : Nat × Nat) : Int × Int := (p.1, p.2)
def pU (p : Nat × Nat) : U := u (toP p)
theorem pU_eq (s r : Nat) : pU (s, r) = .tup [.int s, .int r] := rfl
/-- the place of a pair -/
def plc (p : Nat × Nat) : Nat := 3 * p.1 + p.2
def grid : List (Nat × Nat) := (List.range 3).flatMap fun s => (List.range 3).map fun r => (s, r)
def pairsN (m : Nat) : List (Nat × Nat) := grid.filter fun p => m.testBit (plc p)
def maskN (ps : List (Nat × Nat)) : Nat := ps.foldl (fun a p => a ||| 2 ^ plc p) 0
def lowN (m r : Nat) : Nat := (pairsN m).foldl (fun a p => a ||| 2 ^ plc (p.1, min p.2 r)) 0
def pairsU (ps : List (Nat × Nat)) : U := .tup (ps.map pU)

section
variable {tt : Tab} {n : Nat} {hp : List EO}
theorem bit_eq (ht : tt "bit" = some PM.t_bit) {s r : Nat} (hs : s ≤ 1000) (hr : r ≤ 1000) : phiT tt (n + 1) "bit" [.int s, .int r] hp = some (.ok (.int ((2 ^ plc (s, r) : Nat) : Int)) hp) := by
  refine eq_of_wq ?_
  rw [wq_call ht rfl]
  have e1 : bop .mul (.int 3) (.int s) = some (.int ((3 * s : Nat) : Int)) := by rw [bop_mul (by omega)]; simp
  have e2 : bop .shl (.int 1) (.int ((plc (s, r) : Nat) : Int)) = some (.int ((2 ^ plc (s, r) : Nat) : Int)) := by
    rw [bop_shl (by unfold plc; simp; omega) (by decide)]; simp
  have e3 : bop .add (.int ((3 * s : Nat) : Int)) (.int r) = some (.int ((plc (s, r) : Nat) : Int)) := by rw [bop_add]; simp [plc]
  unfold PM.m_bit mkEnv
  simp only [List.map_cons, List.map_nil, List.length_cons, List.length_nil, ↓wp_sRet, ↓wp_eBop, ↓wp_eC, ↓wp_eVar, List.cons_append, List.nil_append, List.getElem?_cons_zero, List.getElem?_cons_succ, e1, e2, e3, oB_some, and_self]
theorem bit_wq (ht : tt "bit" = some PM.t_bit) {s r : Nat} (hs : s ≤ 1000) (hr : r ≤ 1000) {Q : U → List EO → Prop} {E : Str → Str → U → List EO → Prop} : wq (phiT tt (n + 1)) "bit" [.int s, .int r] hp Q E ↔ Q (.int ((2 ^ plc (s, r) : Nat) : Int)) hp := wq_of_eq (bit_eq ht hs hr)
theorem range3 : rangeU 0 3 = [.int 0, .int 1, .int 2] := rfl
theorem and_pow (m k : Nat) : (((m &&& 2 ^ k : Nat) : Int) != 0) = m.testBit k := by
  have h : (m &&& 2 ^ k = 0) ↔ m.testBit k = false := by
    constructor
    · intro h
      have q := congrArg (fun z => Nat.testBit z k) h
      simpa [Nat.testBit_and, Nat.testBit_two_pow_self] using q
    · intro h
      apply Nat.eq_of_testBit_eq
      intro i
      rw [Nat.testBit_and, Nat.zero_testBit]
      by_cases e : k = i
      · subst e; rw [h]; rfl
      · rw [Nat.testBit_two_pow_of_ne e, Bool.and_false]
  cases q : m.testBit k with
  | true =>
    have : ¬ (m &&& 2 ^ k = 0) := fun z => by rw [h.mp z] at q; cases q
    simp only [bne_iff_ne, ne_eq]
    omega
  | false => rw [h.mpr q]; rfl
theorem truU_int {s : S} {i : Int} : truU s (.u (.int i)) = some (i != 0) := rfl
theorem pairs_eq (ht : tt "bit" = some PM.t_bit) (hp' : tt "pairs_of" = some PM.t_pairs_of) {m : Nat} : phiT tt (n + 2) "pairs_of" [.int m] hp = some (.ok (pairsU (pairsN m)) hp) := by
  refine eq_of_wq ?_
  rw [wq_call hp' rfl]
  unfold PM.m_pairs_of mkEnv
  have hb : ∀ (s r : Nat), s ≤ 2 → r ≤ 2 → ∀ Q : U → List EO → Prop, wq (phiT tt (n + 1)) "bit" [.int s, .int r] hp Q noE ↔ Q (.int ((2 ^ plc (s, r) : Nat) : Int)) hp := fun s r hs hr Q => bit_wq ht (by omega) (by omega)
  simp only [↓wp_sRet, ↓wp_eTupleOf, ↓wp_hdl, ↓wp_eFz, List.map_cons, List.map_nil, List.length_cons, List.length_nil]
  refine wp_lc2 (by simp) 3 (fun _ => true) (fun _ => rangeU 0 3) (fun a b => match a, b with
    | .int s, .int r => if m.testBit (3 * s + r).toNat = true then some (.tup [.int s, .int r]) else none
    | _, _ => none) ?_
  have hr : rng1 [.int 3] = some (rangeU 0 3) := rfl
  simp only [↓wp_iRange, ↓wp_aCons, ↓wp_aNil, ↓wp_eC, hr, oB_some]
  refine ⟨by decide, fun _ _ => by simp [rangeU], ?_, ?_⟩
  · intro v hv
    obtain ⟨s, hs, rfl⟩ := mem_rangeU hv
    rw [Int.zero_add]
    simp only [↓wp_tgName, ↓wp_ret, wipeE, List.cons_append, List.nil_append, List.replicate, List.set_cons_succ, List.set_cons_zero, List.length_cons, List.length_nil, Nat.reduceAdd, Nat.reduceLT, Nat.reduceSub, true_and, forall_const, ↓wp_iRange, ↓wp_aCons, ↓wp_aNil, ↓wp_eC, hr, oB_some]
    intro v1 hv1
    obtain ⟨r, hr1, rfl⟩ := mem_rangeU hv1
    rw [Int.zero_add]
    simp only [↓wp_tgName, ↓wp_tTru, ↓wp_hdl, ↓wp_eBop, ↓wp_eVar, ↓wp_eCall, ↓wp_aCons, ↓wp_aNil, List.set_cons_succ, List.set_cons_zero, List.length_cons, List.length_nil, Nat.reduceAdd, Nat.reduceLT, List.getElem?_cons_zero, List.getElem?_cons_succ, true_and, hb s r (by omega) (by omega), bop_band, oB_some, truU_int, and_pow, ↓wp_eTup, and_true, plc]
    have e : (3 * (s : Int) + r).toNat = 3 * s + r := by omega
    rw [e]
    cases m.testBit (3 * s + r) <;> simp [line]
  · simp only [frzU_ol, oB_some, tupleU, seqOf]
    refine ⟨?_, trivial⟩
    unfold pairsU pairsN grid
    congr 1
    simp only [range3, List.filterMap_cons, List.filterMap_nil, List.flatMap_cons, List.flatMap_nil, if_true]
    simp only [show List.range 3 = [0, 1, 2] from rfl, List.map_cons, List.map_nil, List.flatMap_cons, List.flatMap_nil, List.filter_append, List.map_append, List.filter_cons, List.filter_nil, plc]
    have key : ∀ (s r : Nat), (3 * (s : Int) + r).toNat = 3 * s + r := fun s r => by omega
    have k0 := key 0; have k1 := key 1; have k2 := key 2
    simp only [Int.reduceMul, Int.reduceAdd, Nat.reduceMul, Nat.reduceAdd, show (0 : Int).toNat = 0 from rfl, show (1 : Int).toNat = 1 from rfl, show (2 : Int).toNat = 2 from rfl, show (3 : Int).toNat = 3 from rfl, show (4 : Int).toNat = 4 from rfl, show (5 : Int).toNat = 5 from rfl, show (6 : Int).toNat = 6 from rfl, show (7 : Int).toNat = 7 from rfl, show (8 : Int).toNat = 8 from rfl]
    cases m.testBit 0 <;> cases m.testBit 1 <;> cases m.testBit 2 <;> cases m.testBit 3 <;> cases m.testBit 4 <;> cases m.testBit 5 <;> cases m.testBit 6 <;> cases m.testBit 7 <;> cases m.testBit 8 <;> rfl
/-- the places of a row of pairs, joined -/
def orN (a : Nat) (ps : List (Nat × Nat)) : Nat := ps.foldl (fun a p => a ||| 2 ^ plc p) a
theorem mask_loop (ht : tt "bit" = some PM.t_bit) {v0 : SV} {Q : Fl → S → Prop} {E : Str → Str → U → List EO → Prop} : ∀ (ps : List (Nat × Nat)) (a : Nat) (x y : SV), (∀ p ∈ ps, p.1 ≤ 1000 ∧ p.2 ≤ 1000) →
    (∀ x y, Q .nx ⟨[v0, .val (.int (orN a ps)), x, y], hp⟩) →
    wp (forL (fun u => seqT (tgTup 2 (tgsCons (tgName 2) (tgsCons (tgName 3) tgsNil)) u) (sSet 1 (eBop .bor (eVar 1) (eCall "bit" 2 (aCons (eVar 2) (aCons (eVar 3) aNil)))))) (ps.map pU)) (phiT tt (n + 1)) ⟨[v0, .val (.int a), x, y], hp⟩ Q E
  | [], a, x, y, _, h => wp_forL_nil.mpr (h x y)
  | (s, r) :: ps, a, x, y, hps, h => by
    have hsr := hps (s, r) (List.mem_cons_self ..)
    have ih := mask_loop ht (v0 := v0) (Q := Q) (E := E) ps (a ||| 2 ^ plc (s, r)) (.val (.int s)) (.val (.int r)) (fun p hp => hps p (List.mem_cons_of_mem _ hp)) h
    rw [List.map_cons, pU_eq]
    simp only [↓wp_forL_cons, ↓wp_seqT, ↓wp_tgTup, ↓wp_tgsCons, ↓wp_tgsNil, ↓wp_tgName, ↓wp_sSet, ↓wp_eBop, ↓wp_eVar, ↓wp_eCall, ↓wp_aCons, ↓wp_aNil, List.set_cons_succ, List.set_cons_zero, List.length_cons, List.length_nil, Nat.reduceAdd, Nat.reduceLT, List.getElem?_cons_zero, List.getElem?_cons_succ, true_and, bit_wq ht hsr.1 hsr.2, bop_bor, oB_some]
    exact ih
theorem mask_eq (ht : tt "bit" = some PM.t_bit) (hm : tt "mask_of" = some PM.t_mask_of) {ps : List (Nat × Nat)} (hps : ∀ p ∈ ps, p.1 ≤ 1000 ∧ p.2 ≤ 1000) : phiT tt (n + 2) "mask_of" [pairsU ps] hp = some (.ok (.int (maskN ps)) hp) := by
  refine eq_of_wq ?_
  rw [wq_call hm rfl]
  unfold PM.m_mask_of mkEnv pairsU
  simp only [↓wp_sSeq, ↓wp_sSet, ↓wp_eC, ↓wp_sFor, ↓wp_iItems, ↓wp_eVar, itemsU, oB_some, List.map_cons, List.map_nil, List.cons_append, List.nil_append, List.replicate, List.set_cons_succ, List.set_cons_zero, List.length_cons, List.length_nil, Nat.reduceAdd, Nat.reduceLT, Nat.reduceSub, List.getElem?_cons_zero, List.getElem?_cons_succ, true_and]
  refine mask_loop ht (v0 := _) ps 0 .no .no hps fun x y => ?_
  simp only [↓wp_sRet, ↓wp_eVar, List.getElem?_cons_zero, List.getElem?_cons_succ, and_true]
  rfl
theorem mm2_min {i j : Nat} : mm2 true [.int i, .int j] = some (.int ((min i j : Nat) : Int)) := by
  show some (U.int (if (j : Int) < i then (j : Int) else i)) = _
  congr 2
  by_cases h : j < i
  · rw [if_pos (by omega), Nat.min_eq_right (by omega)]
  · rw [if_neg (by omega), Nat.min_eq_left (by omega)]
def orLow (r : Nat) (a : Nat) (ps : List (Nat × Nat)) : Nat := ps.foldl (fun a p => a ||| 2 ^ plc (p.1, min p.2 r)) a
theorem low_loop (ht : tt "bit" = some PM.t_bit) {v0 : SV} {r : Nat} {Q : Fl → S → Prop} {E : Str → Str → U → List EO → Prop} : ∀ (ps : List (Nat × Nat)) (a : Nat) (x y : SV), (∀ p ∈ ps, p.1 ≤ 1000 ∧ p.2 ≤ 1000) →
    (∀ x y, Q .nx ⟨[v0, .val (.int r), .val (.int (orLow r a ps)), x, y], hp⟩) →
    wp (forL (fun u => seqT (tgTup 2 (tgsCons (tgName 3) (tgsCons (tgName 4) tgsNil)) u) (sSet 2 (eBop .bor (eVar 2) (eCall "bit" 2 (aCons (eVar 3) (aCons (eMM2 true (aCons (eVar 4) (aCons (eVar 1) aNil))) aNil)))))) (ps.map pU)) (phiT tt (n + 1)) ⟨[v0, .val (.int r), .val (.int a), x, y], hp⟩ Q E
  | [], a, x, y, _, h => wp_forL_nil.mpr (h x y)
  | (s, t) :: ps, a, x, y, hps, h => by
    have hsr := hps (s, t) (List.mem_cons_self ..)
    have ih := low_loop ht (v0 := v0) (r := r) (Q := Q) (E := E) ps (a ||| 2 ^ plc (s, min t r)) (.val (.int s)) (.val (.int t)) (fun p hp => hps p (List.mem_cons_of_mem _ hp)) h
    rw [List.map_cons, pU_eq]
    simp only [↓wp_forL_cons, ↓wp_seqT, ↓wp_tgTup, ↓wp_tgsCons, ↓wp_tgsNil, ↓wp_tgName, ↓wp_sSet, ↓wp_eBop, ↓wp_eVar, ↓wp_eCall, ↓wp_aCons, ↓wp_aNil, ↓wp_eMM2, mm2_min, List.set_cons_succ, List.set_cons_zero, List.length_cons, List.length_nil, Nat.reduceAdd, Nat.reduceLT, List.getElem?_cons_zero, List.getElem?_cons_succ, true_and, bit_wq ht hsr.1 (Nat.le_trans (Nat.min_le_left t r) hsr.2), bop_bor, oB_some]
    exact ih
theorem grid_small {p : Nat × Nat} (h : p ∈ grid) : p.1 ≤ 2 ∧ p.2 ≤ 2 := by
  revert p
  decide
theorem pairs_small {m : Nat} {p : Nat × Nat} (h : p ∈ pairsN m) : p.1 ≤ 2 ∧ p.2 ≤ 2 := grid_small (List.mem_filter.mp h).1
theorem low_eq (ht : tt "bit" = some PM.t_bit) (hp' : tt "pairs_of" = some PM.t_pairs_of) (hm : tt "low" = some PM.t_low) {m r : Nat} : phiT tt (n + 3) "low" [.int m, .int r] hp = some (.ok (.int (lowN m r)) hp) := by
  refine eq_of_wq ?_
  rw [wq_call hm rfl]
  unfold PM.m_low mkEnv
  have hq : ∀ Q : U → List EO → Prop, wq (phiT tt (n + 2)) "pairs_of" [.int m] hp Q noE ↔ Q (pairsU (pairsN m)) hp := fun Q => wq_of_eq (pairs_eq ht hp')
  simp only [↓wp_sSeq, ↓wp_sSet, ↓wp_eC, ↓wp_sFor, ↓wp_iItems, ↓wp_eVar, ↓wp_eCall, ↓wp_aCons, ↓wp_aNil, List.map_cons, List.map_nil, List.cons_append, List.nil_append, List.replicate, List.set_cons_succ, List.set_cons_zero, List.length_cons, List.length_nil, Nat.reduceAdd, Nat.reduceLT, Nat.reduceSub, List.getElem?_cons_zero, List.getElem?_cons_succ, true_and, hq, pairsU, itemsU, oB_some]
  refine low_loop ht (v0 := _) (pairsN m) 0 .no .no (fun p hp => by have := pairs_small hp; omega) fun x y => ?_
  simp only [↓wp_sRet, ↓wp_eVar, List.getElem?_cons_zero, List.getElem?_cons_succ, and_true]
  rfl
end
end EL
set_option Elab.async false
set_option linter.all false
set_option maxRecDepth 100000
/-! EM6: what the words of ED1 .. ED9 do. -/
namespace EL
open PySem (Str PyData)
section
variable {Φ : Phi} {s : S} {E : Str → Str → U → List EO → Prop} {Q : U → S → Prop} {m mo mk md : M U} {mh : M Hd} {ms : M (List U)} {ml mu : M (Option Int)}
@[simp ↓] theorem wp_eFld {f : Str} : wp (eFld f m) Φ s Q E ↔ wp m Φ s (fun u s' => oB (fldU s' u f) fun x => Q x s') E := by unfold eFld; simp only [wp_bnd, wp_look]
@[simp ↓] theorem wp_sFldS {c f : Str} {Q : Fl → S → Prop} : wp (sFldS c f mo m) Φ s Q E ↔ wp m Φ s (fun v s1 => wp mo Φ s1 (fun o s2 => oB (setFS s2 c f o v) fun x => Q x.1 x.2) E) E := by unfold sFldS; simp only [wp_bnd, wp_act]
theorem wp_callM {q : Str} {us : List U} : wp (callM q us) Φ s Q E ↔ wq Φ q us s.hp (fun u hp' => Q u ⟨s.env, hp'⟩) E := by
  simp only [wp_def, wq_def]; unfold wp0 callM wq0
  cases Φ q us s.hp with
  | none => exact Iff.rfl
  | some r => cases r <;> exact Iff.rfl
@[simp ↓] theorem wp_eMeth {c x q : Str} {np : Nat} : wp (eMeth c x q np mo ms) Φ s Q E ↔ wp mo Φ s (fun o s1 => (isC s1 c x o).isSome = true ∧ wp ms Φ s1 (fun us s2 => us.length + 1 = np ∧ wq Φ q (o :: us) s2.hp (fun u hp' => Q u ⟨s2.env, hp'⟩) E) E) E := by
  unfold eMeth; simp only [wp_bnd, wp_chk]
  have key : ∀ (o : U) (us : List U) (s2 : S), wp (if us.length + 1 = np then callM q (o :: us) else fail) Φ s2 Q E ↔ us.length + 1 = np ∧ wq Φ q (o :: us) s2.hp (fun u hp' => Q u ⟨s2.env, hp'⟩) E := fun o us s2 => by
    by_cases h : us.length + 1 = np
    · rw [if_pos h, wp_callM]; simp [h]
    · rw [if_neg h]; simp [h]
  constructor <;> (intro h; refine wp_imp h fun o s1 z => ?_)
  · cases e : isC s1 c x o with
    | none => rw [e] at z; simp at z
    | some _ =>
      rw [e] at z
      simp only [oB_some] at z
      exact ⟨rfl, wp_imp z fun us s2 z2 => (key o us s2).mp z2⟩
  · obtain ⟨z1, z2⟩ := z
    cases e : isC s1 c x o with
    | none => rw [e] at z1; cases z1
    | some _ =>
      simp only [oB_some]
      exact wp_imp z2 fun us s2 z3 => (key o us s2).mpr z3
theorem wp_eMake {c q : Str} {np : Nat} {fr : Bool} : wp (eMake c q np fr ms) Φ s Q E ↔ wp ms Φ s (fun us s1 => us.length + 1 = np ∧ wq Φ q (.ref s1.hp.length :: us) (s1.hp ++ [.ins c []]) (fun u hp' => u = .non ∧ (if fr = true then oB (finI s1.hp hp') fun z => reffB s1.hp.length z.1.2 = true ∧ Q (.obj z.1.1 z.1.2) ⟨s1.env, z.2⟩ else Q (.ref s1.hp.length) ⟨s1.env, hp'⟩)) E) E := by
  unfold eMake; rw [wp_bnd]
  have key : ∀ (us : List U) (s1 : S), wp (makeM c q fr us) Φ s1 Q E ↔ wq Φ q (.ref s1.hp.length :: us) (s1.hp ++ [.ins c []]) (fun u hp' => u = .non ∧ (if fr = true then oB (finI s1.hp hp') fun z => reffB s1.hp.length z.1.2 = true ∧ Q (.obj z.1.1 z.1.2) ⟨s1.env, z.2⟩ else Q (.ref s1.hp.length) ⟨s1.env, hp'⟩)) E := fun us s1 => by
    simp only [wp_def, wq_def]; unfold wp0 makeM wq0
    cases Φ q (.ref s1.hp.length :: us) (s1.hp ++ [.ins c []]) with
    | none => exact Iff.rfl
    | some r =>
      cases r with
      | ex k f v hp' => exact Iff.rfl
      | ok u hp' =>
        cases u <;> try (simp only [false_and, reduceCtorEq])
        cases fr with
        | false => simp
        | true =>
          simp only [if_true, true_and]
          cases finI s1.hp hp' with
          | none => simp
          | some z =>
            obtain ⟨⟨c', fs⟩, hp2⟩ := z
            simp only [oB_some]
            by_cases h : reffB s1.hp.length fs = true
            · simp [h]
            · simp [h]
  constructor <;> (intro h; refine wp_imp h fun us s1 z => ?_)
  · by_cases hl : us.length + 1 = np
    · rw [if_pos hl] at z; exact ⟨hl, (key us s1).mp z⟩
    · rw [if_neg hl] at z; exact (wp_fail.mp z).elim
  · rw [if_pos z.1]; exact (key us s1).mpr z.2
/-- what a frozen C(..) asks of its __init__ -/
def mkQ (n : Nat) (hp : List EO) (env : List SV) (Q : U → S → Prop) : U → List EO → Prop := fun u hp' => u = .non ∧ oB (finI hp hp') fun z => reffB n z.1.2 = true ∧ Q (.obj z.1.1 z.1.2) ⟨env, z.2⟩
@[simp ↓] theorem wp_eMakeT {c q : Str} {np : Nat} : wp (eMake c q np true ms) Φ s Q E ↔ wp ms Φ s (fun us s1 => us.length + 1 = np ∧ wq Φ q (.ref s1.hp.length :: us) (s1.hp ++ [.ins c []]) (mkQ s1.hp.length s1.hp s1.env Q) E) E := by
  rw [wp_eMake]
  simp only [if_true]
  exact Iff.rfl
@[simp ↓] theorem wp_eMakeF {c q : Str} {np : Nat} : wp (eMake c q np false ms) Φ s Q E ↔ wp ms Φ s (fun us s1 => us.length + 1 = np ∧ wq Φ q (.ref s1.hp.length :: us) (s1.hp ++ [.ins c []]) (fun u hp' => u = .non ∧ Q (.ref s1.hp.length) ⟨s1.env, hp'⟩) E) E := by
  rw [wp_eMake]
  simp only [Bool.false_eq_true, if_false]
@[simp ↓] theorem wp_pNone {Q : Option Int → S → Prop} : wp pNone Φ s Q E ↔ Q none s := wp_ret
@[simp ↓] theorem wp_pSome {Q : Option Int → S → Prop} : wp (pSome m) Φ s Q E ↔ wp m Φ s (fun u s' => match u with
    | .int i => Q (some i) s'
    | _ => False) E := by
  unfold pSome; rw [wp_bnd]
  constructor <;> (intro h; refine wp_imp h fun x s' q => ?_; cases x <;> first | exact q | simpa using q)
@[simp ↓] theorem wp_eSl : wp (eSl mh ml mu) Φ s Q E ↔ wp mh Φ s (fun h s1 => wp ml Φ s1 (fun l s2 => wp mu Φ s2 (fun u s3 => oB (cutH s3 h l u) fun x => Q x s3) E) E) E := by unfold eSl; simp only [wp_bnd, wp_look]
@[simp ↓] theorem wp_eIsi {k : String} : wp (eIsi k m) Φ s Q E ↔ wp m Φ s (fun u s' => oB ((typU u).bind fun t => isiB t k) fun b => Q (.bl b) s') E := by unfold eIsi; simp only [wp_bnd, wp_ofO, oB_map]
@[simp ↓] theorem wp_eGetD : wp (eGetD mh mk md) Φ s Q E ↔ wp mh Φ s (fun h s1 => (dicOf s1 h).isSome = true ∧ wp mk Φ s1 (fun k s2 => wp md Φ s2 (fun d s3 => oB (getDU s3 h k d) fun x => Q x s3) E) E) E := by
  unfold eGetD; simp only [wp_bnd, wp_chk, wp_look]
  constructor <;> (intro h; refine wp_imp h fun x s' z => ?_)
  · cases e : dicOf s' x with
    | none => rw [e] at z; simp at z
    | some _ => rw [e] at z; exact ⟨rfl, by simpa using z⟩
  · cases e : dicOf s' x with
    | none => rw [e] at z; cases z.1
    | some _ => simpa using z.2
@[simp ↓] theorem wp_iPairsC {Q : List U → S → Prop} : wp (iPairsC m) Φ s Q E ↔ wp m Φ s (fun u s' => oB (pairsS s' u) fun x => Q x.1 x.2) E := by unfold iPairsC; simp only [wp_bnd, wp_act]
@[simp] theorem pairsS_dic {tk : Bool} {kvs : List (U × U)} : pairsS s (.dic tk kvs) = some (itemL kvs, s) := rfl
@[simp ↓] theorem wp_iRevU {Q : List U → S → Prop} : wp (iRevU m) Φ s Q E ↔ wp m Φ s (fun u s' => oB (revU u) fun us => Q us s') E := by unfold iRevU; simp only [wp_bnd, wp_ofO]
@[simp ↓] theorem wp_eAnyW {iy : Nat} : wp (eAnyW mh iy) Φ s Q E ↔ wp mh Φ s (fun h s' => oB (anyWU s' h iy) fun x => Q x s') E := by unfold eAnyW; simp only [wp_bnd, wp_look]
@[simp ↓] theorem wp_eSortSet : wp (eSortSet mh) Φ s Q E ↔ wp mh Φ s (fun h s' => oB (sortSetU s' h) fun x => Q x s') E := by unfold eSortSet; simp only [wp_bnd, wp_look]
@[simp ↓] theorem wp_eSum : wp (eSum mh) Φ s Q E ↔ wp mh Φ s (fun h s' => oB (sumU s' h) fun x => Q x s') E := by unfold eSum; simp only [wp_bnd, wp_look]
@[simp ↓] theorem wp_eIndex : wp (eIndex mh m) Φ s Q E ↔ wp mh Φ s (fun h s1 => oB (lsB s1 h) fun _ => wp m Φ s1 (fun u s2 => oB (indexU s2 h u) fun x => Q x s2) E) E := by unfold eIndex; simp only [wp_bnd, wp_look, wp_chk]
@[simp ↓] theorem wp_pNil {Q : List (U × U) → S → Prop} : wp pNil Φ s Q E ↔ Q [] s := wp_ret
@[simp ↓] theorem wp_pCons {mr : M (List (U × U))} {mv : M U} {Q : List (U × U) → S → Prop} : wp (pCons mk mv mr) Φ s Q E ↔ wp mk Φ s (fun k s1 => wp mv Φ s1 (fun v s2 => wp mr Φ s2 (fun r s3 => Q ((k, v) :: r) s3) E) E) E := by unfold pCons; simp only [wp_bnd, wp_ret]
@[simp ↓] theorem wp_oDisp {mp : M (List (U × U))} {Q : SV → S → Prop} : wp (oDisp mp) Φ s Q E ↔ wp mp Φ s (fun us s1 => (keysOk us = true ∧ us.length ≤ 15) ∧ oB (putsK [] us) fun x => Q (.od false x) s1) E := by
  unfold oDisp; simp only [wp_bnd, wp_ofO]
  constructor <;> (intro h; refine wp_imp h fun us s1 z => ?_)
  · by_cases e : keysOk us = true ∧ us.length ≤ 15
    · rw [if_pos e] at z; exact ⟨e, by simpa using z⟩
    · rw [if_neg e] at z; simp at z
  · rw [if_pos z.1]; simpa using z.2
@[simp ↓] theorem wp_oMerge {mv : M U} {Q : SV → S → Prop} : wp (oMerge mh mk mv) Φ s Q E ↔ wp mh Φ s (fun h s1 => oB (kvsK s1 h) fun kvs => wp mk Φ s1 (fun k s2 => wp mv Φ s2 (fun v s3 => (toK k).isSome = true ∧ oB (putsK [] (kvs ++ [(k, v)])) fun x => Q (.od false x) s3) E) E) E := by
  unfold oMerge; simp only [wp_bnd, wp_ofO, wp_look]
  constructor <;> (intro h; refine wp_imp h fun hd s1 z => ?_; obtain ⟨kvs, e, z⟩ := z; refine ⟨kvs, e, wp_imp z fun k s2 z => wp_imp z fun v s3 z => ?_⟩)
  · cases e : toK k with
    | none => rw [e] at z; simp at z
    | some _ => rw [e] at z; exact ⟨rfl, by simpa using z⟩
  · cases e : toK k with
    | none => rw [e] at z; cases z.1
    | some _ => simpa using z.2
@[simp ↓] theorem wp_iEnumU {Q : List U → S → Prop} : wp (iEnumU m) Φ s Q E ↔ wp m Φ s (fun u s' => oB (itemsU u) fun us => Q (numU us) s') E := by unfold iEnumU; simp only [wp_bnd, wp_ofO, oB_map]
end
/-- a turn of while -/
theorem wp_whileF {Φ : Phi} {s : S} {E : Str → Str → U → List EO → Prop} {Q : Fl → S → Prop} {t : M Bool} {b : M Fl} {n : Nat} : wp (whileF t b (n + 1)) Φ s Q E ↔ wp t Φ s (fun c s1 => if c = true then wp b Φ s1 (fun f s2 => match f with
    | .nx => wp (whileF t b n) Φ s2 Q E
    | .ct => wp (whileF t b n) Φ s2 Q E
    | .bk => Q .nx s2
    | .rt v => Q (.rt v) s2) E else Q .nx s1) E := by
  rw [whileF, wp_bnd]
  constructor <;> (intro h; refine wp_imp h fun c s1 z => ?_)
  · cases c with
    | false => simpa using z
    | true =>
      simp only [if_true, wp_bnd] at z ⊢
      exact wp_imp z fun f s2 q => by cases f <;> first | exact q | simpa using q
  · cases c with
    | false => simpa using z
    | true =>
      simp only [if_true, wp_bnd] at z ⊢
      exact wp_imp z fun f s2 q => by cases f <;> first | exact q | simpa using q
/-- a while loop, by a measure -/
theorem wp_while {Φ : Phi} {E : Str → Str → U → List EO → Prop} {Q : Fl → S → Prop} {t : M Bool} {b : M Fl} (P : Nat → S → Prop) (step : ∀ n s, P n s → wp t Φ s (fun c s1 => if c = true then wp b Φ s1 (fun f s2 => match f with
    | .nx => ∃ k, k < n ∧ P k s2
    | .ct => ∃ k, k < n ∧ P k s2
    | .bk => Q .nx s2
    | .rt v => Q (.rt v) s2) E else Q .nx s1) E) : ∀ (n : Nat) (s : S) (fuel : Nat), P n s → n < fuel → wp (whileF t b fuel) Φ s Q E
  | n, s, 0, _, h => absurd h (Nat.not_lt_zero _)
  | n, s, fuel + 1, p, h => by
    rw [wp_whileF]
    refine wp_imp (step n s p) fun c s1 z => ?_
    cases c with
    | false => simpa using z
    | true =>
      simp only [if_true] at z ⊢
      refine wp_imp z fun f s2 q => ?_
      cases f with
      | nx => obtain ⟨k, hk, pk⟩ := q; exact wp_while P step k s2 fuel pk (by omega)
      | ct => obtain ⟨k, hk, pk⟩ := q; exact wp_while P step k s2 fuel pk (by omega)
      | bk => exact q
      | rt v => exact q
end EL
set_option Elab.async false
set_option linter.all false
set_option maxRecDepth 100000
/-! EM7: what the words of ED5, ED11 .. ED13 do. -/
namespace EL
open PySem (Str PyData)
section
variable {Φ : Phi} {s : S} {E : Str → Str → U → List EO → Prop} {m mo mk mv : M U} {mh m1 m2 : M Hd} {f : U → M Unit} {t : M Bool} {vs : List Nat} {mi : M (List U)}
@[simp ↓] theorem wp_eEqH {neg : Bool} {Q : U → S → Prop} : wp (eEqH neg m1 m2) Φ s Q E ↔ wp m1 Φ s (fun u s1 => wp m2 Φ s1 (fun h s2 => oB (eqH s2 u h) fun x => Q (.bl (if neg = true then !x else x)) s2) E) E := by
  unfold eEqH; simp only [wp_bnd, wp_look, oB_map]
@[simp ↓] theorem wp_oDCopy {Q : SV → S → Prop} : wp (oDCopy mh) Φ s Q E ↔ wp mh Φ s (fun h s1 => oB (copyU s1 h) fun x => Q x s1) E := by unfold oDCopy; simp only [wp_bnd, wp_look]
@[simp ↓] theorem wp_oListOf {Q : SV → S → Prop} : wp (oListOf mh) Φ s Q E ↔ wp mh Φ s (fun h s1 => oB (seqOf s1 h) fun x => Q (.ol x.2) s1) E := by unfold oListOf; simp only [wp_bnd, wp_look, oB_map]
end
/-- entries put in turn -/
def putAll (tk : Bool) : List (U × U) → List (U × U) → Option (List (U × U))
  | acc, [] => some acc
  | acc, (k, v) :: r => (put tk acc k v).bind fun acc => putAll tk acc r
section
variable {Φ : Phi} {s : S} {E : Str → Str → U → List EO → Prop} {mk mv : M U} {f : U → M Unit} {t : M Bool} {vs : List Nat} {mi : M (List U)} {tk : Bool}
theorem wp_turnD {Q : List (U × U) → S → Prop} {u : U} {yes no : M (List (U × U))} : wp (turnD f t vs u yes no) Φ s Q E ↔ wp (f u) Φ ⟨wipeE s.env vs, s.hp⟩ (fun _ s2 => wp t Φ s2 (fun b s3 => if b = true then wp yes Φ s3 Q E else wp no Φ s3 Q E) E) E := by
  unfold turnD
  rw [wp_bnd]
  have key : ∀ (Q : Unit → S → Prop), wp (wipeM vs) Φ s Q E ↔ Q () ⟨wipeE s.env vs, s.hp⟩ := fun Q => wp_def.trans Iff.rfl
  rw [key, wp_bnd]
  constructor <;> (intro h; refine wp_imp h fun x s' q => ?_)
  · rw [wp_bnd] at q
    refine wp_imp q fun b s2 q => ?_
    cases b <;> exact q
  · rw [wp_bnd]
    refine wp_imp q fun b s2 q => ?_
    cases b <;> exact q
theorem wp_pushD {Q : List (U × U) → S → Prop} {acc : List (U × U)} : wp (pushD tk mk mv acc) Φ s Q E ↔ wp mk Φ s (fun k s1 => wp mv Φ s1 (fun v s2 => oB (put tk acc k v) fun x => Q x s2) E) E := by
  unfold pushD; simp only [wp_bnd, wp_ofO]
theorem dc_pure {e0 : List SV} {hp : List EO} (g : U → Option (U × U)) : ∀ (us : List U) (acc fin : List (U × U)) (env : List SV), wipeE env vs = e0 → putAll tk acc (us.filterMap g) = some fin →
    (∀ u ∈ us, wp (f u) Φ ⟨e0, hp⟩ (fun _ s2 => wp t Φ s2 (fun b s3 => if b = true then wp mk Φ s3 (fun k s4 => wp mv Φ s4 (fun v s5 => g u = some (k, v) ∧ wipeE s5.env vs = e0 ∧ s5.hp = hp) noE) noE else g u = none ∧ wipeE s3.env vs = e0 ∧ s3.hp = hp) noE) noE) →
    ∃ env', wipeE env' vs = e0 ∧ dcL tk f t mk mv vs us acc Φ ⟨env, hp⟩ = some (.ok fin ⟨env', hp⟩)
  | [], acc, fin, env, he, hl, h => ⟨env, he, by simp [putAll] at hl; subst hl; rfl⟩
  | u :: us, acc, fin, env, he, hl, h => by
    have h1 : wp (turnD f t vs u (pushD tk mk mv acc) (ret acc)) Φ ⟨env, hp⟩ (fun acc' s' => putAll tk acc' (us.filterMap g) = some fin ∧ wipeE s'.env vs = e0 ∧ s'.hp = hp) noE := by
      rw [wp_turnD]
      show wp (f u) Φ ⟨wipeE env vs, hp⟩ _ noE
      rw [he]
      refine wp_imp (h u (List.mem_cons_self ..)) fun _ s2 q => wp_imp q fun b s3 q => ?_
      cases b with
      | true =>
        simp only [if_true] at q ⊢
        rw [wp_pushD]
        refine wp_imp q fun k s4 q => wp_imp q fun v s5 q => ?_
        rw [List.filterMap_cons, q.1] at hl
        simp only [putAll] at hl
        cases e : put tk acc k v with
        | none => rw [e] at hl; cases hl
        | some a2 => rw [e] at hl; rw [oB_some]; exact ⟨hl, q.2⟩
      | false =>
        simp only [Bool.false_eq_true, if_false] at q ⊢
        rw [List.filterMap_cons, q.1] at hl
        rw [wp_ret]
        exact ⟨hl, q.2⟩
    obtain ⟨acc', s', e1, e2, e3, e4⟩ := wp_of h1
    obtain ⟨env1, hp1⟩ := s'
    have e4 : hp1 = hp := e4
    subst e4
    obtain ⟨env2, e5, e6⟩ := dc_pure g us acc' fin env1 e3 e2 fun v hv => h v (List.mem_cons_of_mem _ hv)
    refine ⟨env2, e5, ?_⟩
    show bnd (turnD f t vs u (pushD tk mk mv acc) (ret acc)) (fun acc' => dcL tk f t mk mv vs us acc') Φ ⟨env, hp1⟩ = _
    unfold bnd
    rw [e1]
    exact e6
/-- a dict comprehension that leaves the state as it is: g says what each item gives -/
theorem wp_dc {Q : SV → S → Prop} (g : U → Option (U × U)) (h : wp mi Φ s (fun us s1 => (∀ u ∈ us, wp (f u) Φ ⟨wipeE s1.env vs, s1.hp⟩ (fun _ s2 => wp t Φ s2 (fun b s3 => if b = true then wp mk Φ s3 (fun k s4 => wp mv Φ s4 (fun v s5 => g u = some (k, v) ∧ wipeE s5.env vs = wipeE s1.env vs ∧ s5.hp = s1.hp) noE) noE else g u = none ∧ wipeE s3.env vs = wipeE s1.env vs ∧ s3.hp = s1.hp) noE) noE) ∧
    oB (putAll tk [] (us.filterMap g)) fun fin => Q (.od tk fin) ⟨backE s1.env (wipeE s1.env vs) vs, s1.hp⟩) E) : wp (oDC tk mi f t mk mv vs) Φ s Q E := by
  unfold oDC
  rw [wp_bnd]
  refine wp_imp h fun us s1 ⟨h2, h3⟩ => ?_
  obtain ⟨fin, e0, h3⟩ := h3
  obtain ⟨env', e1, e2⟩ := dc_pure (Φ := Φ) (f := f) (t := t) (mk := mk) (mv := mv) g us [] fin s1.env rfl e0 h2
  rw [wp_def]; unfold wp0
  simp only []
  have e2 : dcL tk f t mk mv vs us [] Φ s1 = _ := e2
  rw [e2]
  show Q (.od tk fin) ⟨backE s1.env (wipeE env' vs) vs, s1.hp⟩
  rw [e1]
  exact h3
end
end EL
set_option Elab.async false
set_option linter.all false
set_option maxRecDepth 100000
/-! EM8: what a duel is asked: numbers, states, moves, rows. -/
namespace EL
open PySem (Str PyData)
open PySem.W (Datum Tup)
theorem isi_ii : isiB "int" "int" = some true := by decide +kernel
theorem isi_ib : isiB "int" "bool" = some false := by decide +kernel
theorem isi_tt : isiB "tuple" "tuple" = some true := by decide +kernel
theorem truU_bl {s : S} {b : Bool} : truU s (.u (.bl b)) = some b := rfl
section
variable {tt : Tab} {n : Nat} {hp : List EO}
def numB (v m : Int) : Bool := decide (0 ≤ v) && decide (v ≤ m)
theorem num_eq (ht : tt "is_number" = some PM.t_is_number) {v m : Int} : phiT tt (n + 1) "is_number" [.int v, .int m] hp = some (.ok (.bl (numB v m)) hp) := by
  refine eq_of_wq ?_
  rw [wq_call ht rfl]
  unfold PM.m_is_number mkEnv
  simp only [List.map_cons, List.map_nil, List.length_cons, List.length_nil, ↓wp_sRet, ↓wp_eAnd, ↓wp_eIsi, ↓wp_eNot, ↓wp_eChain, ↓wp_eC, ↓wp_eVar, List.cons_append, List.nil_append, List.getElem?_cons_zero, List.getElem?_cons_succ, typU, isi_ii, isi_ib, oB_some, Option.bind_some, cop_le, if_true, Bool.not_false]
  cases h : decide (0 ≤ v) with
  | false => simp [numB, h]
  | true => simp [numB, h]
theorem num_wq (ht : tt "is_number" = some PM.t_is_number) {v m : Int} {Q : U → List EO → Prop} {E : Str → Str → U → List EO → Prop} : wq (phiT tt (n + 1)) "is_number" [.int v, .int m] hp Q E ↔ Q (.bl (numB v m)) hp := wq_of_eq (num_eq ht)
theorem for_all {Φ : Phi} {body : U → M Fl} {E : Str → Str → U → List EO → Prop} {Q : Fl → S → Prop} (p : U → Bool) (R : S → Prop) (B : S → Prop) : ∀ (us : List U) (s : S), R s →
    (∀ u ∈ us, ∀ s, R s → wp (body u) Φ s (fun f s' => if p u = true then (f = .nx ∨ f = .ct) ∧ R s' else f = .rt (.bl false) ∧ B s') E) →
    (us.all p = true → ∀ s, R s → Q .nx s) → (us.all p = false → ∀ s, B s → Q (.rt (.bl false)) s) → wp (forL body us) Φ s Q E
  | [], s, r, _, h1, _ => wp_forL_nil.mpr (h1 rfl s r)
  | u :: us, s, r, h, h1, h2 => by
    rw [wp_forL_cons]
    refine wp_imp (h u (List.mem_cons_self ..) s r) fun f s' q => ?_
    cases e : p u with
    | true =>
      rw [if_pos e] at q
      have ih := for_all (Q := Q) p R B us s' q.2 (fun v hv => h v (List.mem_cons_of_mem _ hv)) (fun z => h1 (by rw [List.all_cons, e, z]; rfl)) (fun z => h2 (by rw [List.all_cons, e, z]; rfl))
      rcases q.1 with rfl | rfl
      · exact ih
      · exact ih
    | false =>
      rw [if_neg (by rw [e]; exact Bool.false_ne_true)] at q
      obtain ⟨rfl, b⟩ := q
      exact h2 (by rw [List.all_cons, e]; rfl) s' b
/-- the numbers of a row are from nought to m -/
def rowB (xs : List Int) (m : Int) : Bool := xs.all fun x => numB x m
def statesB (a b c : List Int) : Bool := ([a, b, c].all fun r => decide (1 ≤ r.length) && decide (r.length ≤ 3) && decide (r.length = a.length)) && rowB a 1 && rowB b 2 && rowB c 1
abbrev tU (xs : List Int) : U := .tup (xs.map U.int)
end
end EL
set_option Elab.async false
set_option linter.all false
set_option maxRecDepth 100000
/-! EM9: states_fit. -/
namespace EL
open PySem (Str PyData)
section
variable {tt : Tab} {n : Nat} {hp : List EO}
theorem lenU_tup {s : S} {us : List U} : lenU s (.u (.tup us)) = some (.int us.length) := rfl
theorem cop_ne_int {i j : Int} : cop .ne (.int i) (.int j) = some (!decide (i = j)) := cop_ne_enc (α := Int) (by decide) i j
theorem cop_eq_int {i j : Int} : cop .eq (.int i) (.int j) = some (decide (i = j)) := cop_eq_enc (α := Int) (by decide) i j
def lenOk (a : List Int) : U → Bool
  | .tup us => decide (1 ≤ us.length) && decide (us.length ≤ 3) && decide (us.length = a.length)
  | _ => false
def numP (m : Int) : U → Bool
  | .int v => numB v m
  | _ => false
def rowP : U → Bool
  | .tup [.tup us, .int m] => us.all (numP m)
  | _ => false
theorem rowP_eq {us : List Int} {m : Int} : rowP (.tup [tU us, .int m]) = (us.map U.int).all (numP m) := rfl
theorem rowP_row {us : List Int} {m : Int} : rowP (.tup [tU us, .int m]) = rowB us m := by
  rw [rowP_eq, List.all_map]; rfl
theorem states_eq (ht : tt "states_fit" = some PM.t_states_fit) (hn : tt "is_number" = some PM.t_is_number) {a b c : List Int} : phiT tt (n + 2) "states_fit" [tU a, tU b, tU c] hp = some (.ok (.bl (statesB a b c)) hp) := by
  refine eq_of_wq ?_
  rw [wq_call ht rfl]
  unfold PM.m_states_fit mkEnv
  simp only [List.map_cons, List.map_nil, List.length_cons, List.length_nil, ↓wp_sSeq, ↓wp_sFor, ↓wp_iItems, ↓wp_eTup, ↓wp_aCons, ↓wp_aNil, ↓wp_eVar, ↓wp_eC, List.cons_append, List.nil_append, List.getElem?_cons_zero, List.getElem?_cons_succ, itemsU, oB_some]
  refine ⟨by decide, ?_⟩
  refine for_all (lenOk a) (fun s => ∃ x, s = ⟨[.val (tU a), .val (tU b), .val (tU c), x, .no, .no], hp⟩) (fun s => s.hp = hp) _ _ ⟨_, rfl⟩ ?_ ?_ ?_
  · rintro u hu s ⟨x, rfl⟩
    obtain ⟨us, rfl⟩ : ∃ us : List Int, u = tU us := by
      simp only [List.mem_cons, List.not_mem_nil, or_false] at hu
      rcases hu with rfl | rfl | rfl
      · exact ⟨_, rfl⟩
      · exact ⟨_, rfl⟩
      · exact ⟨_, rfl⟩
    simp only [↓wp_seqT, ↓wp_tgName, ↓wp_sIf, ↓wp_tOr, ↓wp_tNot, ↓wp_tTru, ↓wp_hdl, ↓wp_eIsi, ↓wp_eVar, ↓wp_tV, ↓wp_eChain, ↓wp_eC, ↓wp_eLen, ↓wp_mSlot, ↓wp_eCop, ↓wp_sRet, ↓wp_sNext, List.set_cons_succ, List.set_cons_zero, List.getElem?_cons_zero, List.getElem?_cons_succ, List.length_cons, List.length_nil, typU, isi_tt, oB_some, Option.bind_some, truU_bl, lenU_tup, cop_le, cop_ne_int, List.length_map]
    refine ⟨by decide, ?_⟩
    have e1 : decide ((1 : Int) ≤ (us.length : Int)) = decide (1 ≤ us.length) := by congr 1; rw [eq_iff_iff]; omega
    have e2 : decide ((us.length : Int) ≤ 3) = decide (us.length ≤ 3) := by congr 1; rw [eq_iff_iff]; omega
    have e3 : decide ((us.length : Int) = (a.length : Int)) = decide (us.length = a.length) := by congr 1; rw [eq_iff_iff]; omega
    simp only [e1, e2, e3, lenOk, List.length_map]
    cases decide (1 ≤ us.length) <;> cases decide (us.length ≤ 3) <;> cases decide (us.length = a.length) <;> simp
  · intro h1 s hs
    obtain ⟨x, rfl⟩ := hs
    have hl1 : [a, b, c].all (fun r => decide (1 ≤ r.length) && decide (r.length ≤ 3) && decide (r.length = a.length)) = true := by
      simpa only [List.all_cons, List.all_nil, lenOk, List.length_map] using h1
    simp only [↓wp_eVar, List.getElem?_cons_zero, List.getElem?_cons_succ]
    refine ⟨by decide, by decide, by decide, by decide, ?_⟩
    refine for_all rowP (fun s => ∃ x y z, s = ⟨[.val (tU a), .val (tU b), .val (tU c), x, y, z], hp⟩) (fun s => s.hp = hp) _ _ ⟨_, _, _, rfl⟩ ?_ ?_ ?_
    · rintro u hu s ⟨x, y, z, rfl⟩
      obtain ⟨us, m, rfl⟩ : ∃ (us : List Int) (m : Int), u = .tup [tU us, .int m] := by
        simp only [List.mem_cons, List.not_mem_nil, or_false] at hu
        rcases hu with rfl | rfl | rfl
        · exact ⟨_, _, rfl⟩
        · exact ⟨_, _, rfl⟩
        · exact ⟨_, _, rfl⟩
      simp only [↓wp_seqT, ↓wp_tgTup, ↓wp_tgsCons, ↓wp_tgsNil, ↓wp_tgName, ↓wp_sFor, ↓wp_iItems, ↓wp_eVar, List.set_cons_succ, List.set_cons_zero, List.getElem?_cons_zero, List.getElem?_cons_succ, List.length_cons, List.length_nil, itemsU, oB_some]
      refine ⟨trivial, by decide, by decide, ?_⟩
      refine for_all (numP m) (fun s => ∃ z, s = ⟨[.val (tU a), .val (tU b), .val (tU c), .val (tU us), .val (.int m), z], hp⟩) (fun s => s.hp = hp) _ _ ⟨_, rfl⟩ ?_ ?_ ?_
      · rintro u hu s ⟨z, rfl⟩
        obtain ⟨v, _, rfl⟩ := List.mem_map.mp hu
        simp only [↓wp_seqT, ↓wp_tgName, ↓wp_sIf, ↓wp_tNot, ↓wp_tTru, ↓wp_hdl, ↓wp_eCall, ↓wp_aCons, ↓wp_aNil, ↓wp_eVar, ↓wp_sRet, ↓wp_sNext, ↓wp_eC, List.set_cons_succ, List.set_cons_zero, List.getElem?_cons_zero, List.getElem?_cons_succ, List.length_cons, List.length_nil, num_wq hn, truU_bl, oB_some, numP]
        cases numB v m <;> simp
      · intro h2 s hs
        obtain ⟨z, rfl⟩ := hs
        have : rowP (.tup [tU us, .int m]) = true := by rw [rowP_eq]; exact h2
        rw [if_pos this]
        exact ⟨.inl rfl, _, _, _, rfl⟩
      · intro h2 s hs
        have : rowP (.tup [tU us, .int m]) = false := by rw [rowP_eq]; exact h2
        rw [if_neg (by rw [this]; exact Bool.false_ne_true)]
        exact ⟨rfl, hs⟩
    · intro h2 s hs
      obtain ⟨x, y, z, rfl⟩ := hs
      simp only [↓wp_sRet, ↓wp_eC]
      refine ⟨?_, trivial⟩
      simp only [List.all_cons, List.all_nil, rowP_row, Bool.and_true] at h2
      rw [Bool.and_eq_true, Bool.and_eq_true] at h2
      unfold statesB
      rw [hl1, h2.1, h2.2.1, h2.2.2]; rfl
    · intro h2 s hs
      refine ⟨?_, hs⟩
      simp only [List.all_cons, List.all_nil, rowP_row, Bool.and_true] at h2
      unfold statesB
      rw [hl1, Bool.true_and, Bool.and_assoc, h2]
  · intro h1 s hs
    refine ⟨?_, hs⟩
    have hl1 : [a, b, c].all (fun r => decide (1 ≤ r.length) && decide (r.length ≤ 3) && decide (r.length = a.length)) = false := by
      simpa only [List.all_cons, List.all_nil, lenOk, List.length_map] using h1
    unfold statesB
    rw [hl1]; rfl
end
end EL
set_option Elab.async false
set_option linter.all false
set_option maxRecDepth 100000
/-! EM10: move_fits, row_fits. -/
namespace EL
open PySem (Str PyData)
open PySem.W (Datum Tup)
open Enc (u)
section
variable {tt : Tab} {n : Nat} {hp : List EO}
abbrev Mv := Int × Tup Int
abbrev Rw := Tup Mv
def moveB (p : Mv) (states letters : Int) : Bool := numB p.1 (states - 1) && decide (p.2.items.length ≤ 2) && rowB p.2.items (letters - 1)
theorem mv_u (p : Mv) : u p = .tup [.int p.1, tU p.2.items] := rfl
theorem getU_tup {s : S} {us : List U} {i : Int} : getU s (.u (.tup us)) (.int i) = L2.atI us i := rfl
theorem move_eq (ht : tt "move_fits" = some PM.t_move_fits) (hn : tt "is_number" = some PM.t_is_number) {p : Mv} {states letters : Int} : phiT tt (n + 2) "move_fits" [u p, .int states, .int letters] hp = some (.ok (.bl (moveB p states letters)) hp) := by
  refine eq_of_wq ?_
  rw [wq_call ht rfl]
  obtain ⟨q, w⟩ := p
  obtain ⟨w⟩ := w
  unfold PM.m_move_fits mkEnv
  simp [mv_u, typU, isi_tt, truU_bl, lenU_tup, cop_ne_int, getU_tup, num_wq hn, List.replicate]
  cases e1 : numB q (states - 1) with
  | false => simp [moveB, e1]
  | true =>
    by_cases e2 : w.length ≤ 2
    · have e2' : ¬ (2 : Int) < (w.length : Int) := by omega
      simp [e2', itemsU]
      refine for_all (numP (letters - 1)) (fun s => ∃ z, s = ⟨[.val (.tup [.int q, tU w]), .val (.int states), .val (.int letters), .val (tU w), z], hp⟩) (fun s => s.hp = hp) _ _ ⟨_, rfl⟩ ?_ ?_ ?_
      · rintro u hu s ⟨z, rfl⟩
        obtain ⟨v, _, rfl⟩ := List.mem_map.mp hu
        simp [num_wq hn, truU_bl, numP]
        try (cases numB v (letters - 1) <;> simp)
      · intro h2 s hs
        obtain ⟨z, rfl⟩ := hs
        rw [List.all_map] at h2
        simp [moveB, e1, e2]
        exact h2
      · intro h2 s hs
        rw [List.all_map] at h2
        have h2 : rowB w (letters - 1) = false := h2
        simp [moveB, e1, e2, h2, hs]
    · have e2' : (2 : Int) < (w.length : Int) := by omega
      simp [e2', moveB, e2]
theorem move_wq (ht : tt "move_fits" = some PM.t_move_fits) (hn : tt "is_number" = some PM.t_is_number) {p : Mv} {states letters : Int} {Q : U → List EO → Prop} {E : Str → Str → U → List EO → Prop} : wq (phiT tt (n + 2)) "move_fits" [u p, .int states, .int letters] hp Q E ↔ Q (.bl (moveB p states letters)) hp := wq_of_eq (move_eq ht hn)
end
end EL
set_option Elab.async false
set_option linter.all false
set_option maxRecDepth 100000
/-! EM11: row_fits, rows_fit. -/
namespace EL
open PySem (Str PyData)
open PySem.W (Datum Tup)
open Enc (u)
theorem for_allM {α : Type} {Φ : Phi} {body : U → M Fl} {E : Str → Str → U → List EO → Prop} {Q : Fl → S → Prop} (g : α → U) (p : α → Bool) (R : S → Prop) (B : S → Prop) : ∀ (us : List α) (s : S), R s →
    (∀ u ∈ us, ∀ s, R s → wp (body (g u)) Φ s (fun f s' => if p u = true then (f = .nx ∨ f = .ct) ∧ R s' else f = .rt (.bl false) ∧ B s') E) →
    (us.all p = true → ∀ s, R s → Q .nx s) → (us.all p = false → ∀ s, B s → Q (.rt (.bl false)) s) → wp (forL body (us.map g)) Φ s Q E
  | [], s, r, _, h1, _ => wp_forL_nil.mpr (h1 rfl s r)
  | u :: us, s, r, h, h1, h2 => by
    rw [List.map_cons, wp_forL_cons]
    refine wp_imp (h u (List.mem_cons_self ..) s r) fun f s' q => ?_
    cases e : p u with
    | true =>
      rw [if_pos e] at q
      have ih := for_allM (Q := Q) g p R B us s' q.2 (fun v hv => h v (List.mem_cons_of_mem _ hv)) (fun z => h1 (by rw [List.all_cons, e, z]; rfl)) (fun z => h2 (by rw [List.all_cons, e, z]; rfl))
      rcases q.1 with rfl | rfl
      · exact ih
      · exact ih
    | false =>
      rw [if_neg (by rw [e]; exact Bool.false_ne_true)] at q
      obtain ⟨rfl, b⟩ := q
      exact h2 (by rw [List.all_cons, e]; rfl) s' b
section
variable {tt : Tab} {n : Nat} {hp : List EO}
/-- what row_fits asks of the i-th move -/
def rowP' (r : List Mv) (states letters : Int) (e : Mv × Nat) : Bool := moveB e.1 states letters && !decide (e.1 ∈ r.take e.2)
def rwB (r : Rw) (states letters : Int) : Bool := decide (r.items.length ≤ 3) && r.items.zipIdx.all (rowP' r.items states letters)
theorem numU_enc (r : List Mv) : numU (r.map u) = r.zipIdx.map fun e => U.tup [.int (e.2 : Nat), u e.1] := by
  unfold numU
  rw [List.zipIdx_map, List.map_map]
  rfl
theorem cut_take {us : List U} {i : Nat} (h : i ≤ us.length) : cutU us none (some (i : Int)) = us.take i := by
  unfold cutU
  rw [HT.sIx_none, HT.sIx_nat, List.drop_zero, Nat.sub_zero, Nat.min_eq_left h]
theorem row_eq (ht : tt "row_fits" = some PM.t_row_fits) (hm : tt "move_fits" = some PM.t_move_fits) (hn : tt "is_number" = some PM.t_is_number) {r : Rw} {states letters : Int} : phiT tt (n + 3) "row_fits" [u r, .int states, .int letters] hp = some (.ok (.bl (rwB r states letters)) hp) := by
  refine eq_of_wq ?_
  rw [wq_call ht rfl]
  obtain ⟨r⟩ := r
  have hu : u (Tup.mk r : Rw) = .tup (r.map u) := rfl
  unfold PM.m_row_fits mkEnv
  simp [hu, typU, isi_tt, truU_bl, lenU_tup, itemsU, numU_enc, List.replicate]
  by_cases e2 : r.length ≤ 3
  · have e2' : ¬ (3 : Int) < (r.length : Int) := by omega
    simp [e2']
    refine for_allM _ (rowP' r states letters) (fun s => ∃ y z, s = ⟨[.val (.tup (r.map u)), .val (.int states), .val (.int letters), y, z], hp⟩) (fun s => s.hp = hp) _ _ ⟨_, _, rfl⟩ ?_ ?_ ?_
    · rintro ⟨mv, i⟩ hu s ⟨y, z, rfl⟩
      have hi : i < r.length := by
        have := List.mem_zipIdx hu
        omega
      simp [move_wq hm hn, truU_bl, rowP', cutH, cut_take (show i ≤ (r.map u).length by simp; omega), memU, seqOf]
      rw [show List.take i (List.map u r) = (r.take i).map u by rw [List.map_take], inU_enc (by decide)]
      simp
      cases e1 : moveB mv states letters with
      | false => simp
      | true => by_cases e3 : mv ∈ r.take i <;> simp [e3]
    · intro h2 s hs
      obtain ⟨y, z, rfl⟩ := hs
      simp [rwB, e2, h2]
    · intro h2 s hs
      simp [rwB, e2, h2, hs]
  · have e2' : (3 : Int) < (r.length : Int) := by omega
    simp [e2', rwB, e2]
theorem row_wq (ht : tt "row_fits" = some PM.t_row_fits) (hm : tt "move_fits" = some PM.t_move_fits) (hn : tt "is_number" = some PM.t_is_number) {r : Rw} {states letters : Int} {Q : U → List EO → Prop} {E : Str → Str → U → List EO → Prop} : wq (phiT tt (n + 3)) "row_fits" [u r, .int states, .int letters] hp Q E ↔ Q (.bl (rwB r states letters)) hp := wq_of_eq (row_eq ht hm hn)
end
end EL
set_option Elab.async false
set_option linter.all false
set_option maxRecDepth 100000
/-! EM12: rows_fit. -/
namespace EL
open PySem (Str PyData)
open PySem.W (Datum Tup)
open Enc (u)
section
variable {tt : Tab} {n : Nat} {hp : List EO}
abbrev Ent := (Int × Int) × Rw
def entU (e : Ent) : U × U := (u e.1, u e.2)
abbrev rowsU (rs : List Ent) : List (U × U) := rs.map entU
def entB (states letters : Int) (e : Ent) : Bool := numB e.1.1 (states - 1) && numB e.1.2 (letters - 1) && rwB e.2 states letters
def rowsB (rs : List Ent) (states letters : Int) : Bool := rs.all (entB states letters)
theorem rows_eq (ht : tt "rows_fit" = some PM.t_rows_fit) (hr : tt "row_fits" = some PM.t_row_fits) (hm : tt "move_fits" = some PM.t_move_fits) (hn : tt "is_number" = some PM.t_is_number) {rs : List Ent} {states letters : Int} : phiT tt (n + 4) "rows_fit" [.dic true (rowsU rs), .int states, .int letters] hp = some (.ok (.bl (rowsB rs states letters)) hp) := by
  refine eq_of_wq ?_
  rw [wq_call ht rfl]
  unfold PM.m_rows_fit mkEnv
  simp [itemL, List.replicate]
  refine for_allM _ (entB states letters) (fun s => ∃ y z, s = ⟨[.val (.dic true (rowsU rs)), .val (.int states), .val (.int letters), y, z], hp⟩) (fun s => s.hp = hp) _ _ ⟨_, _, rfl⟩ ?_ ?_ ?_
  · rintro ⟨⟨k1, k2⟩, r⟩ hu s ⟨y, z, rfl⟩
    simp [entU, u_pair, u_int, typU, isi_tt, truU_bl, lenU_tup, cop_ne_int, getU_tup, num_wq hn, row_wq hr hm hn, entB]
    cases numB k1 (states - 1) <;> cases numB k2 (letters - 1) <;> cases rwB r states letters <;> simp
  · intro h2 s hs
    obtain ⟨y, z, rfl⟩ := hs
    simp [rowsB, h2]
  · intro h2 s hs
    simp [rowsB, h2, hs]
theorem rows_wq (ht : tt "rows_fit" = some PM.t_rows_fit) (hr : tt "row_fits" = some PM.t_row_fits) (hm : tt "move_fits" = some PM.t_move_fits) (hn : tt "is_number" = some PM.t_is_number) {rs : List Ent} {states letters : Int} {Q : U → List EO → Prop} {E : Str → Str → U → List EO → Prop} : wq (phiT tt (n + 4)) "rows_fit" [.dic true (rowsU rs), .int states, .int letters] hp Q E ↔ Q (.bl (rowsB rs states letters)) hp := wq_of_eq (rows_eq ht hr hm hn)
end
end EL
set_option Elab.async false
set_option linter.all false
set_option maxRecDepth 100000
/-! EM13: dicts of rows; Duel.__init__. -/
namespace EL
open PySem (Str PyData)
open PySem.W (Datum Tup)
open Enc (u)
def kK (k : Int × Int) : List L2.Key := [.inl k.1, .inl k.2]
theorem toKT_u (k : Int × Int) : toKT (u k) = some (kK k) := rfl
theorem kK_inj {a b : Int × Int} (h : kK a = kK b) : a = b := by
  obtain ⟨a1, a2⟩ := a
  obtain ⟨b1, b2⟩ := b
  simp [kK] at h
  rw [h.1, h.2]
theorem put_new {rs : List Ent} {k : Int × Int} {r : Rw} (hl : rs.length < line) (h : k ∉ rs.map (·.1)) : put true (rowsU rs) (u k) (u r) = some (rowsU (rs ++ [(k, r)])) := by
  unfold put
  rw [if_pos (by simpa using hl), if_pos rfl, toKT_u, Option.map_some]
  congr 1
  unfold putU
  rw [if_neg ?_]
  · simp [entU]
  · rw [List.any_map, List.any_eq_true]
    rintro ⟨e, he, z⟩
    have z : decide (toKT (u e.1) = some (kK k)) = true := z
    rw [decide_eq_true_eq, toKT_u, Option.some.injEq] at z
    exact h (kK_inj z ▸ List.mem_map_of_mem he)
theorem putAll_rows : ∀ (bs as : List Ent), as.length + bs.length ≤ 1000 → ((as ++ bs).map (·.1)).Nodup → putAll true (rowsU as) (rowsU bs) = some (rowsU (as ++ bs))
  | [], as, _, _ => by simp [putAll]
  | (k, r) :: bs, as, hl, hn => by
    show (put true (rowsU as) (u k) (u r)).bind _ = _
    have hk : k ∉ as.map (·.1) := by
      intro hm
      rw [List.map_append, List.nodup_append] at hn
      exact hn.2.2 k hm k (by simp) rfl
    rw [put_new (by simp only [List.length_cons] at hl; unfold line; omega) hk, Option.bind_some, putAll_rows bs (as ++ [(k, r)]) (by simp only [List.length_append, List.length_cons, List.length_nil] at hl ⊢; omega) (by rw [List.append_assoc]; exact hn), List.append_assoc]
    rfl
/-- a duel's parts -/
structure DD where
  sides : List Int
  ranks : List Int
  ends : List Int
  letters : Int
  rows : List Ent
def DD.fits (d : DD) : Bool := statesB d.sides d.ranks d.ends && numB d.letters 3 && !decide (d.letters = 0) && rowsB d.rows d.sides.length d.letters
structure DD.ok (d : DD) : Prop where
  fits : d.fits = true
  nd : (d.rows.map (·.1)).Nodup
  few : d.rows.length ≤ 1000
def DD.fs (d : DD) : List (Str × U) := [("sides", tU d.sides), ("ranks", tU d.ranks), ("ends", tU d.ends), ("letters", .int d.letters), ("_rows", .dic true (rowsU d.rows))]
def DD.u (d : DD) : U := .obj "Duel" d.fs
section
variable {tt : Tab} {n : Nat} {hp : List EO}
theorem states_wq (ht : tt "states_fit" = some PM.t_states_fit) (hn : tt "is_number" = some PM.t_is_number) {a b c : List Int} {Q : U → List EO → Prop} {E : Str → Str → U → List EO → Prop} : wq (phiT tt (n + 2)) "states_fit" [tU a, tU b, tU c] hp Q E ↔ Q (.bl (statesB a b c)) hp := wq_of_eq (states_eq ht hn)
theorem setFS_last {env : List SV} {c f : Str} {v : U} {fs : List (Str × U)} (h : fs.length < 1000) : setFS ⟨env, hp ++ [.ins c fs]⟩ c f (.ref hp.length) v = some (.nx, ⟨env, hp ++ [.ins c (putFU f v fs)]⟩) := by
  unfold setFS
  simp [h]
theorem pf1 {a : U} : putFU "sides" a [] = ([("sides", a)] : List (Str × U)) := by rfl
theorem pf2 {a b : U} : putFU "ranks" b [("sides", a)] = ([("sides", a), ("ranks", b)] : List (Str × U)) := by rfl
theorem pf3 {a b c : U} : putFU "ends" c [("sides", a), ("ranks", b)] = ([("sides", a), ("ranks", b), ("ends", c)] : List (Str × U)) := by rfl
theorem pf4 {a b c d : U} : putFU "letters" d [("sides", a), ("ranks", b), ("ends", c)] = ([("sides", a), ("ranks", b), ("ends", c), ("letters", d)] : List (Str × U)) := by rfl
theorem pf5 {a b c d e : U} : putFU "_rows" e [("sides", a), ("ranks", b), ("ends", c), ("letters", d)] = ([("sides", a), ("ranks", b), ("ends", c), ("letters", d), ("_rows", e)] : List (Str × U)) := by rfl
theorem init_wq (hi : tt "Duel.__init__" = some PM.t_Duel___init__) (hs : tt "states_fit" = some PM.t_states_fit) (ht : tt "rows_fit" = some PM.t_rows_fit) (hr : tt "row_fits" = some PM.t_row_fits) (hm : tt "move_fits" = some PM.t_move_fits) (hn : tt "is_number" = some PM.t_is_number) {d : DD} (ok : d.ok)
    {Q : U → List EO → Prop} {E : Str → Str → U → List EO → Prop} (h : Q .non (hp ++ [.ins "Duel" d.fs])) : wq (phiT tt (n + 5)) "Duel.__init__" [.ref hp.length, tU d.sides, tU d.ranks, tU d.ends, .int d.letters, .dic true (rowsU d.rows)] (hp ++ [.ins "Duel" []]) Q E := by
  rw [wq_call hi rfl]
  have f := ok.fits
  unfold DD.fits at f
  simp only [Bool.and_eq_true] at f
  obtain ⟨⟨⟨f1, f2⟩, f3⟩, f4⟩ := f
  have f3 : decide (d.letters = 0) = false := by simpa using f3
  unfold PM.m_Duel___init__ mkEnv
  simp [List.replicate, states_wq hs hn, f1, truU_bl, num_wq hn, f2, cop_eq_int, f3, lenU_tup, rows_wq ht hr hm hn, f4, setFS_last, pf1, pf2, pf3, pf4]
  refine wp_dc (fun e => match e with
    | .tup [k, v] => some (k, v)
    | _ => none) ?_
  simp [itemL]
  refine ⟨?_, ?_⟩
  · rintro u k1 k2 r hm rfl
    simp [wipeE]
  · have e : (fun e : U => match e with
        | .tup [k, v] => some (k, v)
        | _ => none) ∘ (fun e : U × U => U.tup [e.1, e.2]) ∘ entU = fun e => some (entU e) := by funext e; rfl
    have e2 := putAll_rows d.rows [] (by simpa using ok.few) ok.nd
    simp only [List.map_nil, List.nil_append] at e2
    rw [e, List.filterMap_eq_map', e2]
    simp [wipeE, backE, setFS_last, pf5]
    exact h
end
end EL
set_option Elab.async false
set_option linter.all false
set_option maxRecDepth 100000
/-! EM14: Duel(..), Duel.row. -/
namespace EL
open PySem (Str PyData)
open PySem.W (Datum Tup)
open Enc (u)
mutual
theorem refB_data (n : Nat) : ∀ {x : U} {d : PyData}, toD x = some d → refB n x = true
  | .non, _, _ => by simp [refB]
  | .bl _, _, _ => by simp [refB]
  | .int _, _, _ => by simp [refB]
  | .str _, _, _ => by simp [refB]
  | .tup xs, d, h => by
    simp only [toD] at h
    cases e : toDs xs with
    | none => rw [e] at h; cases h
    | some ds => rw [refB]; exact refsB_data n e
  | .lst xs, d, h => by
    simp only [toD] at h
    cases e : toDs xs with
    | none => rw [e] at h; cases h
    | some ds => rw [refB]; exact refsB_data n e
  | .dic _ _, _, h => by simp [toD] at h
  | .obj _ _, _, h => by simp [toD] at h
  | .ref _, _, h => by simp [toD] at h
  | .scr _, _, h => by simp [toD] at h
theorem refsB_data (n : Nat) : ∀ {xs : List U} {ds : List PyData}, toDs xs = some ds → refsB n xs = true
  | [], _, _ => by simp [refsB]
  | x :: xs, ds, h => by
    simp only [toDs] at h
    cases e1 : toD x with
    | none => rw [e1] at h; cases h
    | some d =>
      cases e2 : toDs xs with
      | none => rw [e1, e2] at h; cases h
      | some ds' => rw [refsB, refB_data n e1, refsB_data n e2]; rfl
end
theorem refB_enc {α : Type} [DecidableEq α] [Datum α] [Enc α] (n : Nat) (a : α) : refB n (u a) = true := refB_data n (Enc.ud a)
theorem refkB_rows (n : Nat) : ∀ rs : List Ent, refkB n (rowsU rs) = true
  | [] => by simp [refkB]
  | e :: rs => by
    show refkB n ((u e.1, u e.2) :: rowsU rs) = true
    rw [refkB, refB_enc, refB_enc, refkB_rows n rs]; rfl
theorem reffB_duel (n : Nat) (d : DD) : reffB n d.fs = true := by
  have h : ∀ xs : List Int, refsB n (xs.map U.int) = true := fun xs => by
    have z := refB_enc n (Tup.mk xs)
    rw [u_tup, refB] at z
    exact z
  simp [DD.fs, reffB, h, refB, refkB_rows]
section
variable {tt : Tab} {n : Nat} {hp : List EO}
structure DuelT (tt : Tab) : Prop where
  init : tt "Duel.__init__" = some PM.t_Duel___init__
  states : tt "states_fit" = some PM.t_states_fit
  rowsf : tt "rows_fit" = some PM.t_rows_fit
  rowf : tt "row_fits" = some PM.t_row_fits
  move : tt "move_fits" = some PM.t_move_fits
  num : tt "is_number" = some PM.t_is_number
  row : tt "Duel.row" = some PM.t_Duel_row
  rows : tt "Duel.rows" = some PM.t_Duel_rows
/-- Duel(..) of parts in form -/
theorem make_wq (T : DuelT tt) {d : DD} (ok : d.ok) {k : Nat} (hk : k = hp.length) {env : List SV} {Q : U → S → Prop} {E : Str → Str → U → List EO → Prop} (h : Q d.u ⟨env, hp⟩) :
    wq (phiT tt (n + 5)) "Duel.__init__" [.ref k, tU d.sides, tU d.ranks, tU d.ends, .int d.letters, .dic true (rowsU d.rows)] (hp ++ [.ins "Duel" []]) (mkQ k hp env Q) E := by
  subst hk
  refine init_wq T.init T.states T.rowsf T.rowf T.move T.num ok ⟨rfl, ?_⟩
  rw [finI_app, oB_some]
  exact ⟨reffB_duel _ d, h⟩
def DD.row (d : DD) (k : Int × Int) : Rw := ((d.rows.find? fun e => decide (e.1 = k)).map (·.2)).getD ⟨[]⟩
theorem look_rows (rs : List Ent) (k : Int × Int) : look true (rowsU rs) (u k) = some ((rs.find? fun e => decide (e.1 = k)).map fun e => u e.2) := by
  unfold look
  rw [if_pos rfl, toKT_u, Option.map_some]
  congr 1
  rw [List.find?_map, Option.map_map]
  congr 1
  congr 1
  funext e
  show decide (toKT (u e.1) = some (kK k)) = decide (e.1 = k)
  rw [toKT_u]
  by_cases h : e.1 = k
  · rw [h]; simp
  · rw [decide_eq_false h, decide_eq_false]
    intro z
    exact h (kK_inj (Option.some.inj z))
theorem fs_rows {s : S} {d : DD} : fldU s d.u "_rows" = some (.dic true (rowsU d.rows)) := by rfl
theorem row_of_wq (T : DuelT tt) {d : DD} {i j : Int} {Q : U → List EO → Prop} {E : Str → Str → U → List EO → Prop} (h : Q (u (d.row (i, j))) hp) : wq (phiT tt (n + 1)) "Duel.row" [d.u, .int i, .int j] hp Q E := by
  rw [wq_call T.row rfl]
  unfold PM.m_Duel_row mkEnv
  have k : U.tup [.int i, .int j] = u (i, j) := rfl
  have e : ∀ s : S, getDU s (.u (.dic true (rowsU d.rows))) (u (i, j)) (.tup []) = some (u (d.row (i, j))) := fun s => by
    unfold getDU
    rw [show dicOf s (.u (.dic true (rowsU d.rows))) = some (true, rowsU d.rows) from rfl]
    simp only [look_rows]
    unfold DD.row
    cases d.rows.find? fun e => decide (e.1 = (i, j)) <;> rfl
  simp [List.replicate, fs_rows, dicOf, k, e]
  exact ⟨by decide, h⟩
end
end EL
set_option Elab.async false
set_option linter.all false
set_option maxRecDepth 100000
/-! EM15: _law_choice, _law_row. -/
namespace EL
open PySem (Str PyData)
open PySem.W (Datum Tup)
open Enc (u)
section
variable {Φ : Phi} {s : S} {E : Str → Str → U → List EO → Prop} {f : U → M Unit} {t : M Bool} {m : M U} {vs : List Nat} {mi : M (List U)}
theorem lc_inv {e0 : List SV} (P : List U → List U → List EO → Prop) (step : ∀ u us acc hp, P (u :: us) acc hp → wp (f u) Φ ⟨e0, hp⟩ (fun _ s2 => wp t Φ s2 (fun b s3 => if b = true then wp m Φ s3 (fun v s4 => wipeE s4.env vs = e0 ∧ P us (acc ++ [v]) s4.hp) noE else wipeE s3.env vs = e0 ∧ P us acc s3.hp) noE) noE) : ∀ (us acc : List U) (env : List SV) (hp : List EO), wipeE env vs = e0 → acc.length + us.length ≤ line → P us acc hp →
    ∃ acc' env' hp', wipeE env' vs = e0 ∧ P [] acc' hp' ∧ lcL f t m vs us acc Φ ⟨env, hp⟩ = some (.ok acc' ⟨env', hp'⟩)
  | [], acc, env, hp, he, hl, h => ⟨acc, env, hp, he, h, rfl⟩
  | u :: us, acc, env, hp, he, hl, h => by
    have h1 : wp (turnM f t vs u (pushM m acc) (ret acc)) Φ ⟨env, hp⟩ (fun acc' s' => wipeE s'.env vs = e0 ∧ P us acc' s'.hp ∧ acc'.length ≤ acc.length + 1) noE := by
      rw [wp_turn]
      show wp (f u) Φ ⟨wipeE env vs, hp⟩ _ noE
      rw [he]
      refine wp_imp (step u us acc hp h) fun _ s2 q => wp_imp q fun b s3 q => ?_
      cases b with
      | true =>
        simp only [if_true] at q ⊢
        rw [wp_push]
        refine wp_imp q fun v s4 q => ⟨by simp only [List.length_cons] at hl; omega, q.1, q.2, by simp⟩
      | false =>
        simp only [Bool.false_eq_true, if_false] at q ⊢
        rw [wp_ret]
        exact ⟨q.1, q.2, by omega⟩
    obtain ⟨acc1, s', e1, e2, e3, e4⟩ := wp_of h1
    obtain ⟨env1, hp1⟩ := s'
    obtain ⟨acc2, env2, hp2, g1, g2, g3⟩ := lc_inv P step us acc1 env1 hp1 e2 (by simp only [List.length_cons] at hl; omega) e3
    refine ⟨acc2, env2, hp2, g1, g2, ?_⟩
    show bnd (turnM f t vs u (pushM m acc) (ret acc)) (fun acc' => lcL f t m vs us acc') Φ ⟨env, hp⟩ = _
    unfold bnd
    rw [e1]
    exact g3
/-- a comprehension that changes cells: P holds of what is left, what is done, and the cells -/
theorem wp_lcI {Q : SV → S → Prop} (P : List U → List U → List EO → Prop) (h : wp mi Φ s (fun us s1 => us.length ≤ line ∧ P us [] s1.hp ∧ (∀ u us acc hp, P (u :: us) acc hp → wp (f u) Φ ⟨wipeE s1.env vs, hp⟩ (fun _ s2 => wp t Φ s2 (fun b s3 => if b = true then wp m Φ s3 (fun v s4 => wipeE s4.env vs = wipeE s1.env vs ∧ P us (acc ++ [v]) s4.hp) noE else wipeE s3.env vs = wipeE s1.env vs ∧ P us acc s3.hp) noE) noE) ∧
    ∀ acc hp, P [] acc hp → Q (.ol acc) ⟨backE s1.env (wipeE s1.env vs) vs, hp⟩) E) : wp (oLC mi f t m vs) Φ s Q E := by
  unfold oLC
  rw [wp_bnd]
  refine wp_imp h fun us s1 ⟨h1, h2, h3, h4⟩ => ?_
  obtain ⟨acc, env', hp', e1, e2, e3⟩ := lc_inv (Φ := Φ) (f := f) (t := t) (m := m) P h3 us [] s1.env s1.hp rfl (by simpa using h1) h2
  rw [wp_def]; unfold wp0
  simp only []
  have e3 : lcL f t m vs us [] Φ s1 = _ := e3
  rw [e3]
  show Q (.ol acc) ⟨backE s1.env (wipeE env' vs) vs, hp'⟩
  rw [e1]
  exact h4 acc hp' e2
end
section
variable {tt : Tab} {n : Nat} {rest : List EO}
theorem choice_wq (hd : tt "_law_draw" = some PM.t_law_draw) (hc : tt "_law_choice" = some PM.t_law_choice) {us : List U} {a b c : Int} (h0 : 0 < us.length) (h1 : us.length < 1000) {Q : U → List EO → Prop} {E : Str → Str → U → List EO → Prop}
    (h : ∀ v ∈ us, ∀ a' b' : Int, Q v (srcO a' b' c :: rest)) : wq (phiT tt (n + 2)) "_law_choice" [.ref 0, .lst us] (srcO a b c :: rest) Q E := by
  rw [wq_call hc rfl]
  unfold PM.m_law_choice mkEnv
  simp [List.replicate, lenU, seqOf]
  refine draw hd (by omega) (by omega) fun v a' b' v0 v1 => ?_
  obtain ⟨k, rfl⟩ := Int.eq_ofNat_of_zero_le v0
  have hk : k < us.length := by omega
  rw [show getU ⟨[.val (.ref 0), .val (.lst us)], srcO a' b' c :: rest⟩ (.u (.lst us)) (.int (k : Int)) = some us[k] from by
    show L2.atI us (k : Int) = _
    rw [atI_nat, List.getElem?_eq_getElem hk], oB_some]
  exact h _ (List.getElem_mem hk) _ _
end
/-- numbers below m drawn so far, of N -/
def drawnP (m c : Int) (rest : List EO) (N : Nat) (us acc : List U) (hp : List EO) : Prop := ∃ (a b : Int) (xs : List Int), hp = srcO a b c :: rest ∧ acc = xs.map U.int ∧ (∀ x ∈ xs, 0 ≤ x ∧ x < m) ∧ xs.length + us.length = N
theorem drawn_step {tt : Tab} (hd : tt "_law_draw" = some PM.t_law_draw) {n : Nat} {m c : Int} {rest : List EO} {N : Nat} {u : U} {us acc : List U} {hp : List EO} (h0 : 0 < m) (h1 : m < 1073741824) (h : drawnP m c rest N (u :: us) acc hp) {E : Str → Str → U → List EO → Prop} :
    wq (phiT tt (n + 1)) "_law_draw" [.ref 0, .int m] hp (fun v hp' => drawnP m c rest N us (acc ++ [v]) hp') E := by
  obtain ⟨a, b, xs, rfl, rfl, h2, h3⟩ := h
  refine draw hd h0 h1 fun v a' b' v0 v1 => ⟨a', b', xs ++ [v], rfl, by simp, fun x hx => ?_, by simp only [List.length_append, List.length_cons, List.length_nil] at h3 ⊢; omega⟩
  rcases List.mem_append.mp hx with hx | hx
  · exact h2 x hx
  · rw [List.mem_singleton.mp hx]; exact ⟨v0, v1⟩
end EL
set_option Elab.async false
set_option linter.all false
set_option maxRecDepth 100000
/-! EM16: _law_row. -/
namespace EL
open PySem (Str PyData)
open PySem.W (Datum Tup)
open Enc (u)
/-- a drawn move -/
def mvOk (st lt : Int) (p : Mv) : Prop := (0 ≤ p.1 ∧ p.1 < st) ∧ p.2.items.length ≤ 2 ∧ ∀ x ∈ p.2.items, 0 ≤ x ∧ x < lt
/-- a drawn row -/
structure RowOk (st lt most : Int) (r : List Mv) : Prop where
  mv : ∀ p ∈ r, mvOk st lt p
  nd : r.Nodup
  len : (r.length : Int) ≤ most
def rowInv (st lt most c : Int) (rest : List EO) (us : List U) (s : S) : Prop := ∃ (moves : List Mv) (x5 x6 x7 : SV) (a b : Int), s = ⟨[.val (.ref 0), .val (.int st), .val (.int lt), .val (.int most), .ol (moves.map u), x5, x6, x7, .no], srcO a b c :: rest⟩ ∧ RowOk st lt (most - us.length) moves
section
variable {tt : Tab} {n : Nat} {rest : List EO}
theorem law_row_wq (hd : tt "_law_draw" = some PM.t_law_draw) (hc : tt "_law_choice" = some PM.t_law_choice) (hr : tt "_law_row" = some PM.t_law_row) {a b c st lt most : Int} (h1 : 0 < st ∧ st < 1000) (h2 : 0 < lt ∧ lt < 1000) (h3 : 0 ≤ most ∧ most < 1000) {Q : U → List EO → Prop} {E : Str → Str → U → List EO → Prop}
    (h : ∀ (r : List Mv) (a' b' : Int), RowOk st lt most r → Q (u (Tup.mk r : Rw)) (srcO a' b' c :: rest)) : wq (phiT tt (n + 3)) "_law_row" [.ref 0, .int st, .int lt, .int most] (srcO a b c :: rest) Q E := by
  rw [wq_call hr rfl]
  unfold PM.m_law_row mkEnv
  simp [List.replicate]
  refine draw hd (by omega) (by omega) fun v a1 b1 v0 v1 => ?_
  rw [rng1_of (by omega) (by omega), oB_some]
  refine wp_for (rowInv st lt most c rest) ?_ ?_ ?_
  · refine ⟨[], _, _, _, a1, b1, rfl, ⟨fun p hp => (nomatch hp), List.nodup_nil, ?_⟩⟩
    simp [rangeU]
    omega
  · rintro w us s ⟨moves, x5, x6, x7, a, b, rfl, ok⟩
    simp
    refine ⟨by decide, choice_wq hd hc (by decide) (by decide) fun sz hsz a2 b2 => draw hd (by omega) (by omega) fun q a3 b3 q0 q1 => ?_⟩
    obtain ⟨k, hk, rfl⟩ : ∃ k : Nat, k ≤ 2 ∧ sz = .int (k : Int) := by
      simp only [List.mem_cons, List.not_mem_nil, or_false] at hsz
      rcases hsz with rfl | rfl | rfl | rfl | rfl
      · exact ⟨0, by omega, rfl⟩
      · exact ⟨1, by omega, rfl⟩
      · exact ⟨1, by omega, rfl⟩
      · exact ⟨2, by omega, rfl⟩
      · exact ⟨2, by omega, rfl⟩
    refine wp_lcI (drawnP lt c rest k) ?_
    simp [rng1_of (show -(2 ^ 62) ≤ ((k : Nat) : Int) by omega) (show ((k : Nat) : Int) < 2 ^ 62 by omega)]
    refine ⟨by simp [rangeU, line]; omega, ⟨a3, b3, [], rfl, rfl, fun x hx => (nomatch hx), by simp [rangeU]⟩, ?_, ?_⟩
    · intro w1 us1 acc1 hp1 hP
      simp [wipeE]
      exact drawn_step hd (by omega) (by omega) hP
    · rintro acc hp1 ⟨a4, b4, xs, rfl, rfl, g1, g2⟩
      simp [wipeE, backE, keepV, tupleU, seqOf]
      rw [show U.tup [U.int q, U.tup (xs.map U.int)] = u ((q, Tup.mk xs) : Mv) from rfl]
      have gl : xs.length = k := by simpa using g2
      refine ⟨by decide, ?_⟩
      rw [show memU (⟨[SV.val (U.ref 0), SV.val (U.int st), SV.val (U.int lt), SV.val (U.int most), SV.ol (moves.map u), SV.val w, SV.val (U.int (k : Int)), SV.val (u ((q, Tup.mk xs) : Mv)), SV.no], srcO a4 b4 c :: rest⟩ : S) (u ((q, Tup.mk xs) : Mv)) (Hd.sl 4) = inU (u ((q, Tup.mk xs) : Mv)) (moves.map u) from rfl, inU_enc (α := Mv) (by decide), oB_some]
      have ol := ok.len
      simp only [List.length_cons] at ol
      split
      · exact ⟨moves, _, _, _, a4, b4, rfl, ok.mv, ok.nd, by omega⟩
      · rename_i z
        have hm : ((q, Tup.mk xs) : Mv) ∉ moves := fun hm => z (@decide_eq_true _ (_) hm)
        refine ⟨rfl, ?_⟩
        have hl : moves.length < line := by unfold line; omega
        refine ⟨(.non, ⟨[SV.val (U.ref 0), SV.val (U.int st), SV.val (U.int lt), SV.val (U.int most), SV.ol ((moves ++ [((q, Tup.mk xs) : Mv)]).map u), SV.val w, SV.val (U.int (k : Int)), SV.val (u ((q, Tup.mk xs) : Mv)), SV.no], srcO a4 b4 c :: rest⟩), ?_, ⟨_, _, _, _, a4, b4, rfl, ?_, ?_, ?_⟩⟩
        · simp [appS, lstH, setH, setE, hl]
        · intro p hp
          rcases List.mem_append.mp hp with hp | hp
          · exact ok.mv p hp
          · rw [List.mem_singleton.mp hp]; exact ⟨⟨q0, q1⟩, by simp; omega, g1⟩
        · rw [List.nodup_append]
          exact ⟨ok.nd, by simp, fun x hx y hy => by rw [List.mem_singleton.mp hy]; exact fun z => hm (z ▸ hx)⟩
        · simp only [List.length_append, List.length_cons, List.length_nil]; omega
  · rintro s ⟨moves, x5, x6, x7, a, b, rfl, ok⟩
    simp [tupleU, seqOf]
    exact h moves a b (by simpa using ok)
end
end EL
set_option Elab.async false
set_option linter.all false
set_option maxRecDepth 100000
/-! EM17: _law_duel. -/
namespace EL
open PySem (Str PyData)
open PySem.W (Datum Tup)
open Enc (u)
/-- a drawn duel's parts -/
structure DrawnD (st lt most : Int) (d : DD) : Prop where
  ls : (d.sides.length : Int) = st
  lr : (d.ranks.length : Int) = st
  le : (d.ends.length : Int) = st
  sides : ∀ x ∈ d.sides, 0 ≤ x ∧ x < 2
  ranks : ∀ x ∈ d.ranks, 0 ≤ x ∧ x < 3
  ends : ∀ x ∈ d.ends, 0 ≤ x ∧ x < 2
  letters : d.letters = lt
  keys : ∀ e ∈ d.rows, (0 ≤ e.1.1 ∧ e.1.1 < st) ∧ (0 ≤ e.1.2 ∧ e.1.2 < lt) ∧ RowOk st lt most e.2.items
  nd : (d.rows.map (·.1)).Nodup
theorem rowB_of {xs : List Int} {m : Int} (h : ∀ x ∈ xs, 0 ≤ x ∧ x < m + 1) : rowB xs m = true := by
  unfold rowB
  rw [List.all_eq_true]
  intro x hx
  have := h x hx
  simp [numB]
  omega
theorem num_of {x m : Int} (h : 0 ≤ x ∧ x < m) : numB x (m - 1) = true := by simp [numB]; omega
theorem moveB_of {st lt : Int} {p : Mv} (h : mvOk st lt p) : moveB p st lt = true := by
  unfold moveB
  rw [num_of h.1, decide_eq_true h.2.1, rowB_of fun x hx => by have := h.2.2 x hx; omega]; rfl
theorem nodup_take {α : Type} : ∀ {r : List α} {p : α} {i : Nat}, r.Nodup → r[i]? = some p → p ∉ r.take i
  | [], _, _, _, h => by simp at h
  | x :: r, p, 0, _, _ => by simp
  | x :: r, p, i + 1, hn, h => by
    rw [List.getElem?_cons_succ] at h
    rw [List.nodup_cons] at hn
    rw [List.take_succ_cons, List.mem_cons]
    rintro (rfl | z)
    · exact hn.1 (List.mem_of_getElem? h)
    · exact nodup_take hn.2 h z
theorem rwB_of {st lt most : Int} (hm : most ≤ 3) {r : List Mv} (h : RowOk st lt most r) : rwB ⟨r⟩ st lt = true := by
  unfold rwB
  have hl := h.len
  rw [decide_eq_true (show r.length ≤ 3 by omega), Bool.true_and, List.all_eq_true]
  rintro ⟨p, i⟩ hp
  have hi : r[i]? = some p := by
    have := List.mem_zipIdx_iff_getElem?.mp hp
    simpa using this
  unfold rowP'
  rw [moveB_of (h.mv p (List.mem_of_getElem? hi)), Bool.true_and]
  simp only [Bool.not_eq_true', decide_eq_false_iff_not]
  exact nodup_take h.nd hi
theorem DrawnD.ok {st lt most : Int} {d : DD} (h : DrawnD st lt most d) (h1 : 0 < st ∧ st ≤ 3) (h2 : 0 < lt ∧ lt ≤ 3) (h3 : most ≤ 3) (hf : d.rows.length ≤ 1000) : d.ok := by
  obtain ⟨a1, a2, a3, a4, a5, a6, a7, a8, a9⟩ := h
  refine ⟨?_, a9, hf⟩
  unfold DD.fits
  have e1 : statesB d.sides d.ranks d.ends = true := by
    unfold statesB
    rw [rowB_of (m := 1) a4, rowB_of (m := 2) a5, rowB_of (m := 1) a6]
    simp
    omega
  have e2 : numB d.letters 3 = true := by simp [numB]; omega
  have e3 : decide (d.letters = 0) = false := decide_eq_false (by omega)
  have e4 : rowsB d.rows d.sides.length d.letters = true := by
    unfold rowsB
    rw [List.all_eq_true]
    rintro e he
    obtain ⟨q1, q2, q3⟩ := a8 e he
    unfold entB
    rw [a1, a7, num_of q1, num_of q2]
    exact rwB_of h3 q3
  rw [e1, e2, e3, e4]; rfl
end EL
set_option Elab.async false
set_option linter.all false
set_option maxRecDepth 100000
/-! EM18: loops over a range; the run of _law_duel. -/
namespace EL
open PySem (Str PyData)
open PySem.W (Datum Tup)
open Enc (u)
section
variable {Φ : Phi} {s : S} {E : Str → Str → U → List EO → Prop} {Q : Fl → S → Prop}
theorem range_drop {N i : Nat} (h : i < N) : (rangeU 0 N).drop i = .int (i : Int) :: (rangeU 0 N).drop (i + 1) := by
  have hl : (rangeU 0 N).length = N := by simp [rangeU]
  rw [List.drop_eq_getElem_cons (by rw [hl]; exact h)]
  congr 1
  simp [rangeU]
theorem wp_forN {body : U → M Fl} {N : Nat} (P : Nat → S → Prop) (h0 : P 0 s) (step : ∀ i, i < N → ∀ s, P i s → wp (body (.int (i : Int))) Φ s (fun f s' => match f with
      | .nx => P (i + 1) s'
      | .ct => P (i + 1) s'
      | .bk => Q .nx s'
      | .rt v => Q (.rt v) s') E) (fin : ∀ s, P N s → Q .nx s) : wp (forL body (rangeU 0 N)) Φ s Q E := by
  refine wp_for (fun us s => ∃ i, i ≤ N ∧ us = (rangeU 0 N).drop i ∧ P i s) ⟨0, Nat.zero_le _, by simp, h0⟩ ?_ ?_
  · rintro v us s ⟨i, hi, e, p⟩
    have hl : (rangeU 0 N).length = N := by simp [rangeU]
    have hlt : i < N := by
      rcases Nat.lt_or_ge i N with h | h
      · exact h
      · rw [List.drop_of_length_le (by rw [hl]; exact h)] at e; cases e
    rw [range_drop hlt] at e
    cases e
    refine wp_imp (step i hlt s p) fun f s' q => ?_
    cases f with
    | nx => exact ⟨i + 1, hlt, rfl, q⟩
    | ct => exact ⟨i + 1, hlt, rfl, q⟩
    | bk => exact q
    | rt v => exact q
  · rintro s ⟨i, hi, e, p⟩
    have hl : (rangeU 0 N).length = N := by simp [rangeU]
    have : i = N := by
      rcases Nat.lt_or_ge i N with h | h
      · rw [range_drop h] at e; cases e
      · omega
    subst this
    exact fin s p
end
end EL
set_option Elab.async false
set_option linter.all false
set_option maxRecDepth 100000
/-! EM19: the run of _law_duel. -/
namespace EL
open PySem (Str PyData)
open PySem.W (Datum Tup)
open Enc (u)
section
variable {tt : Tab} {n : Nat} {rest : List EO}
theorem drawn_tup (hd : tt "_law_draw" = some PM.t_law_draw) {st m a b c : Int} {x2 x3 x4 x6 x7 x8 x9 x10 x11 : SV} (h1 : 0 ≤ st ∧ st < 1000) (h2 : 0 < m ∧ m < 1000) {Q : U → S → Prop} {E : Str → Str → U → List EO → Prop}
    (h : ∀ (xs : List Int) (a' b' : Int), (xs.length : Int) = st → (∀ x ∈ xs, 0 ≤ x ∧ x < m) → Q (tU xs) ⟨[.val (.ref 0), .val (.int st), x2, x3, x4, .no, x6, x7, x8, x9, x10, x11], srcO a' b' c :: rest⟩) :
    wp (eTupleOf (hdl (eFz (oLC (iRange (aCons (eVar 1) aNil)) (tgName 5) (ret true) (eCall "_law_draw" 2 (aCons (eVar 0) (aCons (eC (.int m)) aNil))) [5])))) (phiT tt (n + 1)) ⟨[.val (.ref 0), .val (.int st), x2, x3, x4, .no, x6, x7, x8, x9, x10, x11], srcO a b c :: rest⟩ Q E := by
  simp only [↓wp_eTupleOf, ↓wp_hdl, ↓wp_eFz]
  refine wp_lcI (drawnP m c rest st.toNat) ?_
  simp [rng1_of (show -(2 ^ 62) ≤ st by omega) (show st < 2 ^ 62 by omega)]
  refine ⟨by simp [rangeU, line]; omega, ⟨a, b, [], rfl, rfl, fun x hx => (nomatch hx), by simp [rangeU]⟩, ?_, ?_⟩
  · intro w1 us1 acc1 hp1 hP
    simp [wipeE]
    exact drawn_step hd h2.1 (by omega) hP
  · rintro acc hp1 ⟨a4, b4, xs, rfl, rfl, g1, g2⟩
    simp [wipeE, backE, keepV, tupleU, seqOf]
    have g2 : xs.length = st.toNat := by simpa using g2
    exact h xs a4 b4 (by omega) g1
/-- the rows drawn before the pair (i, j) -/
structure DRows (st lt most : Int) (i j : Nat) (rs : List Ent) : Prop where
  keys : ∀ e ∈ rs, (0 ≤ e.1.1 ∧ e.1.1 < st) ∧ (0 ≤ e.1.2 ∧ e.1.2 < lt) ∧ RowOk st lt most e.2.items
  old : ∀ e ∈ rs, e.1.1 < i ∨ e.1.1 = i ∧ e.1.2 < j
  nd : (rs.map (·.1)).Nodup
  few : rs.length ≤ i * 3 + j
theorem DRows.new {st lt most : Int} {i j : Nat} {rs : List Ent} {r : List Mv} (h : DRows st lt most i j rs) (hi : (i : Int) < st) (hj : (j : Int) < lt) (hr : RowOk st lt most r) : ((i : Int), (j : Int)) ∉ rs.map (·.1) ∧ DRows st lt most i (j + 1) (rs ++ [(((i : Int), (j : Int)), ⟨r⟩)]) := by
  have hk : ((i : Int), (j : Int)) ∉ rs.map (·.1) := by
    intro hm
    obtain ⟨e, he, z⟩ := List.mem_map.mp hm
    have := h.old e he
    rw [z] at this
    exact this.elim (fun h => Int.lt_irrefl _ h) (fun h => Int.lt_irrefl _ h.2)
  refine ⟨hk, ?_, ?_, ?_, ?_⟩
  · intro e he
    rcases List.mem_append.mp he with he | he
    · exact h.keys e he
    · rw [List.mem_singleton.mp he]
      exact ⟨⟨by show (0 : Int) ≤ (i : Int); omega, hi⟩, ⟨by show (0 : Int) ≤ (j : Int); omega, hj⟩, hr⟩
  · intro e he
    rcases List.mem_append.mp he with he | he
    · have := h.old e he
      push_cast
      omega
    · rw [List.mem_singleton.mp he]
      exact .inr ⟨rfl, by show (j : Int) < ((j + 1 : Nat) : Int); omega⟩
  · rw [List.map_append, List.nodup_append]
    refine ⟨h.nd, by simp, fun x hx y hy => ?_⟩
    simp at hy
    rw [hy]
    exact fun z => hk (z ▸ hx)
  · have := h.few
    simp only [List.length_append, List.length_cons, List.length_nil]
    omega
theorem DRows.skip {st lt most : Int} {i j : Nat} {rs : List Ent} (h : DRows st lt most i j rs) : DRows st lt most i (j + 1) rs :=
  ⟨h.keys, fun e he => by have := h.old e he; push_cast; omega, h.nd, by have := h.few; omega⟩
theorem DRows.turn {st lt most : Int} {i j : Nat} {rs : List Ent} (h : DRows st lt most i j rs) (hj : j ≤ 3) : DRows st lt most (i + 1) 0 rs :=
  ⟨h.keys, fun e he => by have := h.old e he; push_cast; omega, h.nd, by have := h.few; omega⟩
end
end EL
set_option Elab.async false
set_option linter.all false
set_option maxRecDepth 100000
/-! EM20: _law_duel. -/
namespace EL
open PySem (Str PyData)
open PySem.W (Datum Tup)
open Enc (u)
section
variable {tt : Tab} {n : Nat} {rest : List EO}
structure DrawT (tt : Tab) : Prop where
  draw : tt "_law_draw" = some PM.t_law_draw
  choice : tt "_law_choice" = some PM.t_law_choice
  row : tt "_law_row" = some PM.t_law_row
def duelInv (st lt most c : Int) (rest : List EO) (s3 s4 s5 : List Int) (i j : Nat) (s : S) : Prop := ∃ (rs : List Ent) (x9 x10 x11 : SV) (a b : Int), s = ⟨[.val (.ref 0), .val (.int st), .val (.int lt), .val (.int most), .val (tU s3), .no, .val (tU s4), .val (tU s5), .od true (rowsU rs), x9, x10, x11], srcO a b c :: rest⟩ ∧ DRows st lt most i j rs
theorem law_duel_wq (D : DrawT tt) (T : DuelT tt) (hl : tt "_law_duel" = some PM.t_law_duel) {a b c st lt most : Int} (h1 : 0 < st ∧ st ≤ 3) (h2 : 0 < lt ∧ lt ≤ 3) (h3 : 0 ≤ most ∧ most ≤ 3) {Q : U → List EO → Prop} {E : Str → Str → U → List EO → Prop}
    (h : ∀ (d : DD) (a' b' : Int), DrawnD st lt most d → d.ok → Q d.u (srcO a' b' c :: rest)) : wq (phiT tt (n + 6)) "_law_duel" [.ref 0, .int st, .int lt, .int most] (srcO a b c :: rest) Q E := by
  rw [wq_call hl rfl]
  unfold PM.m_law_duel mkEnv
  simp only [List.replicate, List.map_cons, List.map_nil, List.length_cons, List.length_nil, Nat.reduceAdd, Nat.reduceSub, List.cons_append, List.nil_append, ↓wp_sSeq, ↓wp_sSet]
  refine drawn_tup D.draw (by omega) (by omega) fun s3 a1 b1 l3 k3 => ⟨by simp, ?_⟩
  simp only [List.set_cons_succ, List.set_cons_zero]
  refine drawn_tup D.draw (by omega) (by omega) fun s4 a2 b2 l4 k4 => ⟨by simp, ?_⟩
  simp only [List.set_cons_succ, List.set_cons_zero]
  refine drawn_tup D.draw (by omega) (by omega) fun s5 a3 b3 l5 k5 => ⟨by simp, ?_⟩
  simp [rng1_of (show -(2 ^ 62) ≤ st by omega) (show st < 2 ^ 62 by omega), rng1_of (show -(2 ^ 62) ≤ lt by omega) (show lt < 2 ^ 62 by omega)]
  refine wp_forN (fun i s => duelInv st lt most c rest s3 s4 s5 i 0 s) ?_ ?_ ?_
  · exact ⟨[], _, _, _, a3, b3, rfl, fun e he => (nomatch he), fun e he => (nomatch he), List.nodup_nil, Nat.zero_le _⟩
  · rintro i hi s ⟨rs, x9, x10, x11, a4, b4, rfl, dr⟩
    simp [rng1_of (show -(2 ^ 62) ≤ lt by omega) (show lt < 2 ^ 62 by omega)]
    refine wp_forN (fun j s => duelInv st lt most c rest s3 s4 s5 i j s ∧ s.env[9]? = some (.val (.int (i : Int)))) ?_ ?_ ?_
    · exact ⟨⟨rs, _, _, _, a4, b4, rfl, dr⟩, rfl⟩
    · rintro j hj s ⟨⟨rs, x9, x10, x11, a4, b4, rfl, dr⟩, g9⟩
      simp at g9
      subst g9
      simp
      refine law_row_wq D.draw D.choice D.row (by omega) (by omega) (by omega) fun r a5 b5 ok => ?_
      have kk : U.tup [.int (i : Int), .int (j : Int)] = u ((i : Int), (j : Int)) := rfl
      obtain ⟨hk, dn⟩ := dr.new (r := r) (by omega) (by omega) ok
      have few := dr.few
      have it : ∀ a b : Int, itemS ⟨[.val (.ref 0), .val (.int st), .val (.int lt), .val (.int most), .val (tU s3), .no, .val (tU s4), .val (tU s5), .od true (rowsU rs), .val (.int (i : Int)), .val (.int (j : Int)), .val (u (Tup.mk r : Rw))], srcO a b c :: rest⟩ (Hd.sl 8) (u ((i : Int), (j : Int))) (u (Tup.mk r : Rw)) = some (.nx, ⟨[.val (.ref 0), .val (.int st), .val (.int lt), .val (.int most), .val (tU s3), .no, .val (tU s4), .val (tU s5), .od true (rowsU (rs ++ [(((i : Int), (j : Int)), ⟨r⟩)])), .val (.int (i : Int)), .val (.int (j : Int)), .val (u (Tup.mk r : Rw))], srcO a b c :: rest⟩) := fun a b => by
        have p := put_new (rs := rs) (k := ((i : Int), (j : Int))) (r := ⟨r⟩) (by unfold line; omega) hk
        show (put true (rowsU rs) (u ((i : Int), (j : Int))) (u (Tup.mk r : Rw))).map _ = _
        rw [p]
        rfl
      rw [kk, show U.tup [] = u (Tup.mk [] : Rw) from rfl, cop_ne_enc (by decide), oB_some]
      have yes : ∀ a b : Int, oB (itemS ⟨[.val (.ref 0), .val (.int st), .val (.int lt), .val (.int most), .val (tU s3), .no, .val (tU s4), .val (tU s5), .od true (rowsU rs), .val (.int (i : Int)), .val (.int (j : Int)), .val (u (Tup.mk r : Rw))], srcO a b c :: rest⟩ (Hd.sl 8) (u ((i : Int), (j : Int))) (u (Tup.mk r : Rw))) (fun x => match x.fst with
          | Fl.nx => duelInv st lt most c rest s3 s4 s5 i (j + 1) x.snd ∧ x.snd.env[9]? = some (SV.val (U.int ↑i))
          | Fl.ct => duelInv st lt most c rest s3 s4 s5 i (j + 1) x.snd ∧ x.snd.env[9]? = some (SV.val (U.int ↑i))
          | Fl.bk => duelInv st lt most c rest s3 s4 s5 (i + 1) 0 x.snd
          | Fl.rt v => Q v x.snd.hp) := fun a b => by
        rw [it, oB_some]
        exact ⟨⟨_, _, _, _, a, b, rfl, dn⟩, rfl⟩
      split
      · exact ⟨by decide, yes _ _⟩
      · refine draw D.draw (by omega) (by omega) fun v a6 b6 v0 v1 => ?_
        rw [cop_gt, oB_some]
        split
        · exact ⟨by decide, yes _ _⟩
        · exact ⟨_, _, _, _, a6, b6, rfl, dr.skip⟩
    · rintro s ⟨⟨rs, x9, x10, x11, a4, b4, rfl, dr⟩, g9⟩
      exact ⟨rs, _, _, _, a4, b4, rfl, dr.turn (by omega)⟩
  · rintro s ⟨rs, x9, x10, x11, a4, b4, rfl, dr⟩
    have few := dr.few
    have dd : DrawnD st lt most ⟨s3, s4, s5, lt, rs⟩ := ⟨l3, l4, l5, k3, k4, k5, rfl, dr.keys, dr.nd⟩
    have ok := dd.ok h1 h2 h3.2 (by show rs.length ≤ 1000; omega)
    simp
    refine make_wq (d := ⟨s3, s4, s5, lt, rs⟩) (hp := srcO a4 b4 c :: rest) T ok (by simp) ?_
    exact h _ _ _ dd ok
end
end EL
set_option Elab.async false
set_option linter.all false
set_option maxRecDepth 100000
/-! EM21: Duel(..) of rows in a cell; Duel.rows; alike. -/
namespace EL
open PySem (Str PyData)
open PySem.W (Datum Tup)
open Enc (u)
/-- a cell of rows -/
def RowsAt (hp : List EO) (i : Nat) (rs : List Ent) : Prop := hp[i]? = some (.dic true (rowsU rs)) ∨ hp[i]? = some (.fdic true (rowsU rs))
theorem set_same {α : Type} : ∀ {l : List α} {i : Nat} {x : α}, l[i]? = some x → l.set i x = l
  | [], _, _, h => by simp at h
  | y :: l, 0, x, h => by simp at h; rw [h]; rfl
  | y :: l, i + 1, x, h => by rw [List.set_cons_succ, set_same (by simpa using h)]
theorem pairsS_cell {env : List SV} {hp : List EO} {i : Nat} {rs : List Ent} (h : RowsAt hp i rs) : pairsS ⟨env, hp⟩ (.ref i) = some (itemL (rowsU rs), ⟨env, hp.set i (.fdic true (rowsU rs))⟩) := by
  rcases h with h | h
  · simp only [pairsS, h]
  · simp only [pairsS, h]; rw [set_same h]
theorem RowsAt.lt {hp : List EO} {i : Nat} {rs : List Ent} (h : RowsAt hp i rs) : i < hp.length := by
  rcases h with h | h <;> exact (List.getElem?_eq_some_iff.mp h).1
theorem RowsAt.fz {hp : List EO} {i : Nat} {rs : List Ent} (h : RowsAt hp i rs) : RowsAt (hp.set i (.fdic true (rowsU rs))) i rs := .inr (by rw [List.getElem?_set_self h.lt])
theorem RowsAt.app {hp : List EO} {i : Nat} {rs : List Ent} {t : List EO} (h : RowsAt hp i rs) : RowsAt (hp ++ t) i rs := by
  unfold RowsAt
  rw [List.getElem?_append_left h.lt]; exact h
theorem finI_set : ∀ {hp : List EO} {i : Nat} {kvs : List (U × U)} {c : Str} {fs : List (Str × U)}, (hp[i]? = some (.dic true kvs) ∨ hp[i]? = some (.fdic true kvs)) → finI hp (hp.set i (.fdic true kvs) ++ [.ins c fs]) = some ((c, fs), hp.set i (.fdic true kvs))
  | [], i, kvs, c, fs, h => by simp at h
  | x :: xs, 0, kvs, c, fs, h => by
    simp only [List.getElem?_cons_zero, Option.some.injEq] at h
    show finI (x :: xs) (.fdic true kvs :: (xs ++ [.ins c fs])) = _
    have e : sameO x (.fdic true kvs) = true := by
      rcases h with rfl | rfl
      · show ((true == true) && eqbKs kvs kvs) = true
        rw [eqbKs_refl]; rfl
      · exact sameO_refl _
    rw [finI, if_pos e, finI_app]; rfl
  | x :: xs, i + 1, kvs, c, fs, h => by
    show finI (x :: xs) (x :: (xs.set i (.fdic true kvs) ++ [.ins c fs])) = _
    rw [finI, if_pos (sameO_refl x), finI_set (by simpa using h)]; rfl
section
variable {tt : Tab} {n : Nat} {hp : List EO}
theorem rowsC_wq (T : DuelT tt) {i : Nat} {rs : List Ent} {states letters : Int} (hd : RowsAt hp i rs) {Q : U → List EO → Prop} {E : Str → Str → U → List EO → Prop} : wq (phiT tt (n + 4)) "rows_fit" [.ref i, .int states, .int letters] hp Q E ↔ Q (.bl (rowsB rs states letters)) (hp.set i (.fdic true (rowsU rs))) := by
  refine wq_of_eq (eq_of_wq ?_)
  rw [wq_call T.rowsf rfl]
  unfold PM.m_rows_fit mkEnv
  simp [pairsS_cell hd, List.replicate, itemL]
  refine for_allM _ (entB states letters) (fun s => ∃ y z, s = ⟨[.val (.ref i), .val (.int states), .val (.int letters), y, z], hp.set i (.fdic true (rowsU rs))⟩) (fun s => s.hp = hp.set i (.fdic true (rowsU rs))) _ _ ⟨_, _, rfl⟩ ?_ ?_ ?_
  · rintro ⟨⟨k1, k2⟩, r⟩ hu s ⟨y, z, rfl⟩
    simp [entU, u_pair, u_int, typU, isi_tt, truU_bl, lenU_tup, cop_ne_int, getU_tup, num_wq T.num, row_wq T.rowf T.move T.num, entB]
    cases numB k1 (states - 1) <;> cases numB k2 (letters - 1) <;> cases rwB r states letters <;> simp
  · intro h2 s hs
    obtain ⟨y, z, rfl⟩ := hs
    simp [rowsB, h2]
  · intro h2 s hs
    simp [rowsB, h2, hs]
theorem initC_wq (T : DuelT tt) {d : DD} (ok : d.ok) {i : Nat} (hd : RowsAt hp i d.rows)
    {Q : U → List EO → Prop} {E : Str → Str → U → List EO → Prop} (h : Q .non (hp.set i (.fdic true (rowsU d.rows)) ++ [.ins "Duel" d.fs])) : wq (phiT tt (n + 5)) "Duel.__init__" [.ref hp.length, tU d.sides, tU d.ranks, tU d.ends, .int d.letters, .ref i] (hp ++ [.ins "Duel" []]) Q E := by
  rw [wq_call T.init rfl]
  have f := ok.fits
  unfold DD.fits at f
  simp only [Bool.and_eq_true] at f
  obtain ⟨⟨⟨f1, f2⟩, f3⟩, f4⟩ := f
  have f3 : decide (d.letters = 0) = false := by simpa using f3
  have hl : (hp.set i (EO.fdic true (rowsU d.rows))).length = hp.length := List.length_set
  have s1 : (hp ++ [EO.ins "Duel" []]).set i (.fdic true (rowsU d.rows)) = hp.set i (.fdic true (rowsU d.rows)) ++ [EO.ins "Duel" []] := List.set_append_left _ _ hd.lt
  have s2 : ∀ fs, pairsS ⟨[.val (.ref hp.length), .val (tU d.sides), .val (tU d.ranks), .val (tU d.ends), .val (.int d.letters), .val (.ref i), .no, .no], hp.set i (.fdic true (rowsU d.rows)) ++ [EO.ins "Duel" fs]⟩ (.ref i) = some (itemL (rowsU d.rows), ⟨[.val (.ref hp.length), .val (tU d.sides), .val (tU d.ranks), .val (tU d.ends), .val (.int d.letters), .val (.ref i), .no, .no], hp.set i (.fdic true (rowsU d.rows)) ++ [EO.ins "Duel" fs]⟩) := fun fs => by
    rw [pairsS_cell (rs := d.rows) hd.fz.app, set_same]
    have := hd.fz.lt
    rw [List.getElem?_append_left this, List.getElem?_set_self hd.lt]
  unfold PM.m_Duel___init__ mkEnv
  have last : ∀ {env : List SV} {c f : Str} {v : U} {fs : List (Str × U)}, fs.length < 1000 → setFS ⟨env, hp.set i (.fdic true (rowsU d.rows)) ++ [.ins c fs]⟩ c f (.ref hp.length) v = some (.nx, ⟨env, hp.set i (.fdic true (rowsU d.rows)) ++ [.ins c (putFU f v fs)]⟩) := fun {env c f v fs} hh => by
    have := setFS_last (hp := hp.set i (.fdic true (rowsU d.rows))) (env := env) (c := c) (f := f) (v := v) hh
    rw [hl] at this
    exact this
  simp [List.replicate, states_wq T.states T.num, f1, truU_bl, num_wq T.num, f2, cop_eq_int, f3, lenU_tup, rowsC_wq T hd.app, f4, s1, last, pf1, pf2, pf3, pf4]
  refine wp_dc (fun e => match e with
    | .tup [k, v] => some (k, v)
    | _ => none) ?_
  simp [s2, itemL]
  refine ⟨?_, ?_⟩
  · rintro u k1 k2 r hm rfl
    simp [wipeE]
  · have e : (fun e : U => match e with
        | .tup [k, v] => some (k, v)
        | _ => none) ∘ (fun e : U × U => U.tup [e.1, e.2]) ∘ entU = fun e => some (entU e) := by funext e; rfl
    have e2 := putAll_rows d.rows [] (by simpa using ok.few) ok.nd
    simp only [List.map_nil, List.nil_append] at e2
    rw [e, List.filterMap_eq_map', e2]
    simp [wipeE, backE, last, pf5]
    exact h
/-- Duel(..) of parts in form, the rows in a cell -/
theorem makeC_wq (T : DuelT tt) {d : DD} (ok : d.ok) {i k : Nat} (hk : k = hp.length) (hd : RowsAt hp i d.rows) {env : List SV} {Q : U → S → Prop} {E : Str → Str → U → List EO → Prop} (h : Q d.u ⟨env, hp.set i (.fdic true (rowsU d.rows))⟩) :
    wq (phiT tt (n + 5)) "Duel.__init__" [.ref k, tU d.sides, tU d.ranks, tU d.ends, .int d.letters, .ref i] (hp ++ [.ins "Duel" []]) (mkQ k hp env Q) E := by
  subst hk
  refine initC_wq T ok hd ⟨rfl, ?_⟩
  rw [finI_set hd, oB_some]
  exact ⟨reffB_duel _ d, h⟩
end
end EL
set_option Elab.async false
set_option linter.all false
set_option maxRecDepth 100000
/-! EM22: Duel.rows; alike. -/
namespace EL
open PySem (Str PyData)
open PySem.W (Datum Tup)
open Enc (u)
def prs (st lt : Nat) : List (Int × Int) := (List.range st).flatMap fun i : Nat => (List.range lt).map fun j : Nat => ((i : Int), (j : Int))
theorem mem_prs {st lt : Nat} {k : Int × Int} : k ∈ prs st lt ↔ ∃ i j : Nat, i < st ∧ j < lt ∧ k = ((i : Int), (j : Int)) := by
  unfold prs
  simp only [List.mem_flatMap, List.mem_map, List.mem_range]
  constructor
  · rintro ⟨i, hi, j, hj, rfl⟩; exact ⟨i, j, hi, hj, rfl⟩
  · rintro ⟨i, j, hi, hj, rfl⟩; exact ⟨i, hi, j, hj, rfl⟩
theorem prs_nd : ∀ st lt : Nat, (prs st lt).Nodup := by
  intro st lt
  unfold prs
  rw [List.Nodup, List.pairwise_flatMap]
  refine ⟨fun i _ => ?_, ?_⟩
  · rw [List.pairwise_map]
    exact List.nodup_range.imp fun {a b} h z => h (by have := congrArg Prod.snd z; simp at this; omega)
  · exact List.nodup_range.imp fun {a b} h x hx y hy z => by
      obtain ⟨a, _, rfl⟩ := List.mem_map.mp hx
      obtain ⟨b, _, e⟩ := List.mem_map.mp hy
      rw [← z] at e
      simp at e
      exact h (by omega)
theorem prs_len (st lt : Nat) : (prs st lt).length = st * lt := by
  unfold prs
  rw [List.length_flatMap]
  simp
  induction st with
  | zero => simp
  | succ n ih => rw [List.range_succ, List.map_append, List.sum_append, ih]; simp [Nat.succ_mul]
/-- entries for keys, each once -/
def tabU (ks : List (Int × Int)) (f : Int × Int → U) : List (U × U) := ks.map fun k => (u k, f k)
theorem tab_look {ks : List (Int × Int)} {f : Int × Int → U} {k : Int × Int} (h : k ∈ ks) : look true (tabU ks f) (u k) = some (some (f k)) := by
  unfold look
  rw [if_pos rfl, toKT_u, Option.map_some]
  congr 1
  induction ks with
  | nil => cases h
  | cons a ks ih =>
    unfold tabU
    rw [List.map_cons, List.find?_cons]
    by_cases e : a = k
    · subst e
      simp [toKT_u]
    · have : decide (toKT (u a) = some (kK k)) = false := by
        rw [toKT_u, decide_eq_false]
        intro z
        exact e (kK_inj (Option.some.inj z))
      simp only [this]
      exact ih ((List.mem_cons.mp h).resolve_left fun z => e z.symm)
theorem put_tab {ks : List (Int × Int)} {f : Int × Int → U} {k : Int × Int} (hl : ks.length < 1000) (h : k ∉ ks) : put true (tabU ks f) (u k) (f k) = some (tabU (ks ++ [k]) f) := by
  unfold put
  rw [if_pos (by simp [tabU]; unfold line; omega), if_pos rfl, toKT_u, Option.map_some]
  congr 1
  unfold putU
  rw [if_neg ?_]
  · simp [tabU]
  · unfold tabU
    rw [List.any_map, List.any_eq_true]
    rintro ⟨e, he, z⟩
    have z : decide (toKT (u e) = some (kK k)) = true := z
    rw [decide_eq_true_eq, toKT_u, Option.some.injEq] at z
    exact h (kK_inj z ▸ he)
theorem putAll_tab {f : Int × Int → U} : ∀ (bs as : List (Int × Int)), as.length + bs.length ≤ 1000 → (as ++ bs).Nodup → putAll true (tabU as f) (tabU bs f) = some (tabU (as ++ bs) f)
  | [], as, _, _ => by simp [putAll, tabU]
  | k :: bs, as, hl, hn => by
    show (put true (tabU as f) (u k) (f k)).bind _ = _
    have hk : k ∉ as := by
      intro hm
      rw [List.nodup_append] at hn
      exact hn.2.2 k hm k (by simp) rfl
    rw [put_tab (by simp only [List.length_cons] at hl; omega) hk, Option.bind_some]
    have := putAll_tab (f := f) bs (as ++ [k]) (by simp only [List.length_append, List.length_cons, List.length_nil] at hl ⊢; omega) (by rw [List.append_assoc]; exact hn)
    rw [List.append_assoc] at this
    exact this
theorem hits_tab {α : Type} [DecidableEq α] [Datum α] [Enc α] (hd : Datum.depth α ≤ 64) {f g : Int × Int → α} {ls : List (Int × Int)} : ∀ {ks : List (Int × Int)}, (∀ k ∈ ks, k ∈ ls) → hitsU (tabU ls fun k => u (g k)) (tabU ks fun k => u (f k)) = some (ks.all fun k => decide (f k = g k))
  | [], _ => rfl
  | k :: ks, h => by
    show hitsU (tabU ls fun k => u (g k)) ((u k, u (f k)) :: tabU ks fun k => u (f k)) = _
    rw [hitsU, tab_look (h k (List.mem_cons_self ..)), hits_tab hd fun x hx => h x (List.mem_cons_of_mem _ hx)]
    simp only [eqU_enc hd, List.all_cons]
theorem prs_u (st l : Nat) : (prs st l).map u = List.flatMap (fun w => List.map (fun a => U.tup [w, a]) (rangeU 0 l)) (rangeU 0 st) := by
  unfold prs rangeU
  rw [List.flatMap_map, List.map_flatMap]
  congr 1
  funext i
  rw [List.map_map, List.map_map]
  apply List.map_congr_left
  intro j _
  simp [u_pair, u_int]
section
variable {α β γ δ : Type} [DecidableEq α] [Datum α] [Enc α] [DecidableEq β] [Datum β] [Enc β] [DecidableEq γ] [Datum γ] [Enc γ] [DecidableEq δ] [Datum δ] [Enc δ]
instance : Enc (PySem.W.T3 α β γ) := ⟨fun p => .tup [u p.a, u p.b, u p.c], fun p => by simp only [toD, toDs, Enc.ud, Option.map_some]; rfl, fun p => by
  show PyData.canLayAll0 [_, _, _] = true
  simp only [PyData.canLayAll0, Enc.can, Bool.and_self]⟩
instance : Enc (PySem.W.T4 α β γ δ) := ⟨fun p => .tup [u p.a, u p.b, u p.c, u p.d], fun p => by simp only [toD, toDs, Enc.ud, Option.map_some]; rfl, fun p => by
  show PyData.canLayAll0 [_, _, _, _] = true
  simp only [PyData.canLayAll0, Enc.can, Bool.and_self]⟩
end
theorem eqU_lst_tup (xs ys : List U) : eqU (.lst xs) (.lst ys) = eqU (.tup xs) (.tup ys) := by
  have h : ∀ xs : List U, (∃ ds, toS (.lst xs) = some (.list ds) ∧ toS (.tup xs) = some (.tuple ds)) ∨ toS (.lst xs) = none ∧ toS (.tup xs) = none := fun xs => by
    unfold toS
    simp only [toD]
    cases toDs xs with
    | none => exact .inr ⟨rfl, rfl⟩
    | some ds =>
      simp only [Option.map_some]
      have e : PySem.SeqAt.shaped (.list ds) = PySem.SeqAt.shaped (.tuple ds) := by
        unfold PySem.SeqAt.shaped
        rw [PyData.canLay0, PyData.canLay0, PyData.depth, PyData.depth]
      rw [e]
      by_cases z : PySem.SeqAt.shaped (.tuple ds) = true
      · simp only [z, if_true]; exact .inl ⟨_, rfl, rfl⟩
      · simp only [z, if_false]; exact .inr ⟨rfl, rfl⟩
  unfold eqU
  rcases h xs with ⟨ds, h1, h2⟩ | ⟨h1, h2⟩ <;> rcases h ys with ⟨es, h3, h4⟩ | ⟨h3, h4⟩ <;> simp only [h1, h2, h3, h4]
  simp only [PyData.eqv]
section
variable {tt : Tab} {n : Nat} {hp : List EO}
def DD.ks (d : DD) : List (Int × Int) := prs d.sides.length d.letters.toNat
theorem DD.ok.small {d : DD} (h : d.ok) : 1 ≤ d.sides.length ∧ d.sides.length ≤ 3 ∧ 1 ≤ d.letters ∧ d.letters ≤ 3 := by
  have f := h.fits
  unfold DD.fits at f
  simp only [Bool.and_eq_true] at f
  obtain ⟨⟨⟨f1, f2⟩, f3⟩, f4⟩ := f
  unfold statesB at f1
  simp at f1
  simp [numB] at f2
  simp at f3
  refine ⟨f1.1.1.1.1.1, f1.1.1.1.1.2, by omega, by omega⟩
theorem fs_sides {s : S} {d : DD} : fldU s d.u "sides" = some (tU d.sides) := by rfl
theorem fs_ranks {s : S} {d : DD} : fldU s d.u "ranks" = some (tU d.ranks) := by rfl
theorem fs_ends {s : S} {d : DD} : fldU s d.u "ends" = some (tU d.ends) := by rfl
theorem fs_letters {s : S} {d : DD} : fldU s d.u "letters" = some (.int d.letters) := by rfl
theorem isC_row {s : S} {d : DD} : isC s "Duel" "row" d.u = some () := by rfl
theorem isC_rows {s : S} {d : DD} : isC s "Duel" "rows" d.u = some () := by rfl
/-- the entries that rows() tells -/
def DD.all (d : DD) : List (U × U) := tabU d.ks fun k => Enc.u (d.row k)
theorem rows_of_eq (T : DuelT tt) {d : DD} (ok : d.ok) : phiT tt (n + 2) "Duel.rows" [d.u] hp = some (.ok (.dic true d.all) hp) := by
  refine eq_of_wq ?_
  rw [wq_call T.rows rfl]
  unfold PM.m_Duel_rows mkEnv
  obtain ⟨h1, h2, h3, h4⟩ := ok.small
  obtain ⟨l, hl⟩ := Int.eq_ofNat_of_zero_le (show 0 ≤ d.letters by omega)
  have r1 : rng1 [.int (d.sides.length : Int)] = some (rangeU 0 d.sides.length) := by rw [rng1_of (by omega) (by omega), Int.toNat_natCast]
  have r2 : rng1 [.int d.letters] = some (rangeU 0 l) := by rw [hl, rng1_of (by omega) (by omega), Int.toNat_natCast]
  simp [List.replicate]
  refine wp_lc2 (by simp) 3 (fun _ => true) (fun _ => rangeU 0 l) (fun a b => some (.tup [a, b])) ?_
  simp [fs_sides, lenU_tup, r1]
  refine ⟨by simp [rangeU, line]; omega, by intro w _; simp [rangeU]; omega, ?_, ?_⟩
  · intro v hv
    obtain ⟨s, hs, rfl⟩ := mem_rangeU hv
    simp [wipeE, List.replicate, fs_letters, r2]
    intro v1 hv1
    simp [line]
  · simp [wipeE, backE, keepV, List.replicate]
    rw [← prs_u, show prs d.sides.length l = d.ks by unfold DD.ks; rw [hl, Int.toNat_natCast]]
    refine wp_dc (fun e => match e with
      | .tup [.int i, .int j] => some (e, Enc.u (d.row (i, j)))
      | _ => none) ?_
    simp [itemsU]
    refine ⟨?_, ?_⟩
    · rintro v i j hk rfl
      simp [wipeE, List.replicate, u_pair, u_int, isC_row, getU_tup]
      exact row_of_wq T ⟨rfl, by simp⟩
    · rw [show (fun e => match e with
        | .tup [.int i, .int j] => some (e, Enc.u (d.row (i, j)))
        | _ => none) ∘ (Enc.u : Int × Int → U) = fun k => some (Enc.u k, Enc.u (d.row k)) from rfl, List.filterMap_eq_map']
      have e2 := putAll_tab (f := fun k => Enc.u (d.row k)) d.ks [] (by
        unfold DD.ks; rw [prs_len, hl, Int.toNat_natCast]
        have : d.sides.length * l ≤ 3 * 3 := Nat.mul_le_mul h2 (by omega)
        simp; omega) (by rw [List.nil_append]; exact prs_nd _ _)
      simp only [List.nil_append] at e2
      rw [show putAll true [] (d.ks.map fun k => (Enc.u k, Enc.u (d.row k))) = some d.all from e2]
      simp
theorem rows_of_wq (T : DuelT tt) {d : DD} (ok : d.ok) {Q : U → List EO → Prop} {E : Str → Str → U → List EO → Prop} : wq (phiT tt (n + 2)) "Duel.rows" [d.u] hp Q E ↔ Q (.dic true d.all) hp := wq_of_eq (rows_of_eq T ok)
def DD.t4 (d : DD) : PySem.W.T4 (Tup Int) (Tup Int) (Tup Int) Int := ⟨⟨d.sides⟩, ⟨d.ranks⟩, ⟨d.ends⟩, d.letters⟩
theorem t4_u (d : DD) : U.tup [tU d.sides, tU d.ranks, tU d.ends, .int d.letters] = Enc.u d.t4 := rfl
/-- are two duels alike -/
def DD.like (d e : DD) : Bool := decide (d.t4 = e.t4) && d.ks.all fun k => decide (d.row k = e.row k)
theorem eqH_u {s : S} {x y : U} (hx : dicOf s (.u x) = none) (hy : dicOf s (.u y) = none) : eqH s (.u x) (.u y) = eqU x y := by
  simp only [eqH, hx, hy]
theorem alike_eq (T : DuelT tt) (ha : tt "alike" = some PM.t_alike) {d e : DD} (ok : d.ok) (ok2 : e.ok) : phiT tt (n + 3) "alike" [d.u, e.u] hp = some (.ok (.bl (d.like e)) hp) := by
  refine eq_of_wq ?_
  rw [wq_call ha rfl]
  unfold PM.m_alike mkEnv
  have d4 : ∀ (s : S) (x : DD), dicOf s (.u (Enc.u x.t4)) = none := fun s x => rfl
  simp [List.replicate, fs_sides, fs_ranks, fs_ends, fs_letters, line, t4_u]
  rw [eqH_u (d4 _ _) (d4 _ _), eqU_enc (by decide), oB_some]
  by_cases h : d.t4 = e.t4
  · simp [h, isC_rows, rows_of_wq T ok, rows_of_wq T ok2, dicOf, eqH]
    have hs : d.sides = e.sides := congrArg (fun z => z.a.items) h
    have hl : d.letters = e.letters := congrArg (fun z => z.d) h
    have hk : d.ks = e.ks := by unfold DD.ks; rw [hs, hl]
    unfold DD.all
    rw [hk]
    simp only [tabU, List.length_map, if_true]
    rw [show hitsU (List.map (fun k => (Enc.u k, Enc.u (e.row k))) e.ks) (List.map (fun k => (Enc.u k, Enc.u (d.row k))) e.ks) = some (e.ks.all fun k => decide (d.row k = e.row k)) from hits_tab (α := Rw) (by decide) fun k hk => hk]
    simp [DD.like, h, hk]
  · simp [h, DD.like]
theorem alike_wq (T : DuelT tt) (ha : tt "alike" = some PM.t_alike) {d e : DD} (ok : d.ok) (ok2 : e.ok) {Q : U → List EO → Prop} {E : Str → Str → U → List EO → Prop} : wq (phiT tt (n + 3)) "alike" [d.u, e.u] hp Q E ↔ Q (.bl (d.like e)) hp := wq_of_eq (alike_eq T ha ok ok2)
end
end EL
set_option Elab.async false
set_option linter.all false
set_option maxRecDepth 100000
/-! EM23: drawn tuples; rows set; the copy of rows. -/
namespace EL
open PySem (Str PyData)
open PySem.W (Datum Tup)
open Enc (u)
section
variable {tt : Tab} {n : Nat} {rest : List EO}
/-- a drawn row of numbers below m; P says how many -/
theorem drawn_list (hd : tt "_law_draw" = some PM.t_law_draw) {m a b c : Int} (h2 : 0 < m ∧ m < 1000) {env : List SV} {v j : Nat} {mi : M (List U)} (P : Nat → Prop) (hv : env[v]? = some .no) (v0 : v ≠ j) (e0 : env[j]? = some (.val (.ref 0))) {E : Str → Str → U → List EO → Prop}
    (hmi : wp mi (phiT tt (n + 1)) ⟨env, srcO a b c :: rest⟩ (fun us s1 => ∃ (k : Nat) (a' b' : Int), us = rangeU 0 k ∧ k ≤ 1000 ∧ P k ∧ s1 = ⟨env, srcO a' b' c :: rest⟩) E)
    {Q : SV → S → Prop}
    (h : ∀ (xs : List Int) (a' b' : Int), P xs.length → (∀ x ∈ xs, 0 ≤ x ∧ x < m) → Q (.ol (xs.map U.int)) ⟨env, srcO a' b' c :: rest⟩) :
    wp (oLC mi (tgName v) (ret true) (eCall "_law_draw" 2 (aCons (eVar j) (aCons (eC (.int m)) aNil))) [v]) (phiT tt (n + 1)) ⟨env, srcO a b c :: rest⟩ Q E := by
  have hw : wipeE env [v] = env := by show env.set v .no = env; exact set_same hv
  have hlt : v < env.length := (List.getElem?_eq_some_iff.mp hv).1
  have hws : ∀ x, wipeE (env.set v x) [v] = env := fun x => by show (env.set v x).set v .no = env; rw [List.set_set]; exact set_same hv
  have hb : backE env env [v] = env := by show env.set v (keepV env[v]?) = env; rw [hv]; exact set_same hv
  by_cases hk : ∃ k, P k
  · refine wp_lcI (fun us acc hp => ∃ k, P k ∧ drawnP m c rest k us acc hp) (wp_imp hmi fun us s1 => ?_)
    rintro ⟨k, a', b', rfl, hk, hP, rfl⟩
    refine ⟨by simp [rangeU, line]; omega, ⟨k, hP, a', b', [], rfl, rfl, fun x hx => (nomatch hx), by simp [rangeU]⟩, ?_, ?_⟩
    · rintro w1 us1 acc1 hp1 ⟨k, hk, hP⟩
      simp [hw, hlt, List.getElem?_set, v0, e0]
      refine wq_imp (drawn_step (n := n) (E := noE) hd h2.1 (by omega) hP) fun x s' q => ⟨hws _, k, hk, q⟩
    · rintro acc hp1 ⟨k, hk, a4, b4, xs, rfl, rfl, g1, g2⟩
      rw [hw, hb]
      exact h xs a4 b4 (by simp at g2; rw [g2]; exact hk) g1
  · refine wp_lcI (fun us acc hp => False) (wp_imp hmi fun us s1 => ?_)
    rintro ⟨k, a', b', rfl, hk2, hP, rfl⟩
    exact absurd ⟨k, hP⟩ hk
/-- a range of a known number -/
theorem rng_known {Φ : Phi} {is : Nat} {env : List SV} {k : Nat} (hk : k ≤ 1000) (hi : env[is]? = some (.val (.int (k : Int)))) {E : Str → Str → U → List EO → Prop} {a b c : Int} : wp (iRange (aCons (eVar is) aNil)) Φ ⟨env, srcO a b c :: rest⟩ (fun us s1 => ∃ (k' : Nat) (a' b' : Int), us = rangeU 0 k' ∧ k' ≤ 1000 ∧ k' = k ∧ s1 = ⟨env, srcO a' b' c :: rest⟩) E := by
  simp [hi]
  rw [rng1_of (by omega) (by omega), Int.toNat_natCast, oB_some]
  simp [hk]
end
/-- a row set in rows -/
def putR (rs : List Ent) (k : Int × Int) (r : Rw) : List Ent := if k ∈ rs.map (·.1) then rs.map fun e => if e.1 = k then (e.1, r) else e else rs ++ [(k, r)]
theorem put_rows {rs : List Ent} {k : Int × Int} {r : Rw} (hl : rs.length < 1000) : put true (rowsU rs) (u k) (u r) = some (rowsU (putR rs k r)) := by
  by_cases h : k ∈ rs.map (·.1)
  · unfold put
    rw [if_pos (by simp; unfold line; omega), if_pos rfl, toKT_u, Option.map_some]
    congr 1
    unfold putU putR
    have dec : ∀ e : Ent, decide (toKT (entU e).1 = some (kK k)) = decide (e.1 = k) := fun e => by
      show decide (toKT (u e.1) = some (kK k)) = _
      rw [toKT_u]
      by_cases q : e.1 = k
      · rw [q]; simp
      · rw [decide_eq_false q, decide_eq_false]
        intro z
        exact q (kK_inj (Option.some.inj z))
    rw [if_pos h, if_pos]
    · unfold rowsU
      rw [List.map_map, List.map_map]
      apply List.map_congr_left
      intro e _
      simp only [Function.comp, dec, decide_eq_true_eq]
      by_cases q : e.1 = k
      · simp [q, entU]
      · simp [q]
    · rw [List.any_map, List.any_eq_true]
      obtain ⟨e, he, q⟩ := List.mem_map.mp h
      refine ⟨e, he, ?_⟩
      show decide _ = true
      rw [dec, q]; simp
  · unfold putR
    rw [if_neg h, put_new (by unfold line; omega) h]
theorem putR_keys {rs : List Ent} {k : Int × Int} {r : Rw} : (putR rs k r).map (·.1) = if k ∈ rs.map (·.1) then rs.map (·.1) else rs.map (·.1) ++ [k] := by
  unfold putR
  split
  · rw [List.map_map]
    apply List.map_congr_left
    intro e _
    simp only [Function.comp]
    split <;> rfl
  · rw [List.map_append]; rfl
theorem putR_mem {rs : List Ent} {k : Int × Int} {r : Rw} {e : Ent} (h : e ∈ putR rs k r) : e = (k, r) ∨ e ∈ rs := by
  unfold putR at h
  split at h
  · obtain ⟨e', he, rfl⟩ := List.mem_map.mp h
    split
    · rename_i q; left; rw [q]
    · exact .inr he
  · rcases List.mem_append.mp h with h | h
    · exact .inr h
    · left; simpa using h
/-! the copy -/
def nine : List (Int × Int) := prs 3 3
theorem hash_nine : (nine.all fun k => nine.all fun k' => (match hashT (kK k), hashT (kK k') with
    | some a, some b => decide (k = k') || !decide (a = b)
    | _, _ => false)) = true := by kernel_rfl
theorem hashesK_nine : ∀ {ks : List (Int × Int)}, (∀ k ∈ ks, k ∈ nine) → ks.Nodup → ∃ hs, hashesK (ks.map kK) = some hs ∧ hs.Nodup ∧ ∀ h ∈ hs, ∃ k ∈ ks, hashT (kK k) = some h
  | [], _, _ => ⟨[], rfl, .nil, fun h hh => (nomatch hh)⟩
  | k :: ks, h, nd => by
    rw [List.nodup_cons] at nd
    obtain ⟨hs, e, n1, n2⟩ := hashesK_nine (ks := ks) (fun x hx => h x (List.mem_cons_of_mem _ hx)) nd.2
    have key : ∀ k' ∈ nine, ∃ a b, hashT (kK k) = some a ∧ hashT (kK k') = some b ∧ (a = b → k = k') := fun k' hk' => by
      have z := List.all_eq_true.mp (List.all_eq_true.mp hash_nine k (h k (List.mem_cons_self ..))) k' hk'
      split at z
      · rename_i a b e1 e2
        refine ⟨a, b, e1, e2, fun ab => ?_⟩
        simp [ab] at z
        exact z
      · cases z
    obtain ⟨a, _, ha, _, _⟩ := key k (h k (List.mem_cons_self ..))
    refine ⟨a :: hs, ?_, ?_, ?_⟩
    · rw [List.map_cons, hashesK, ha, e]
    · rw [List.nodup_cons]
      refine ⟨fun hm => ?_, n1⟩
      obtain ⟨k', hk', e'⟩ := n2 a hm
      obtain ⟨a', b', g1, g2, g3⟩ := key k' (h k' (List.mem_cons_of_mem _ hk'))
      rw [ha] at g1; cases g1
      rw [e'] at g2; cases g2
      exact nd.1 (g3 rfl ▸ hk')
    · intro x hx
      rcases List.mem_cons.mp hx with rfl | hx
      · exact ⟨k, List.mem_cons_self .., ha⟩
      · obtain ⟨k', hk', e'⟩ := n2 x hx
        exact ⟨k', List.mem_cons_of_mem _ hk', e'⟩
theorem keysT_rows : ∀ rs : List Ent, keysT (rowsU rs) = some ((rs.map (·.1)).map kK)
  | [] => rfl
  | e :: rs => by
    show keysT ((u e.1, u e.2) :: rowsU rs) = _
    rw [keysT, toKT_u, keysT_rows rs]; rfl
theorem apart_rows {rs : List Ent} (h : ∀ e ∈ rs, e.1 ∈ nine) (nd : (rs.map (·.1)).Nodup) : apartU (rowsU rs) = true := by
  unfold apartU
  obtain ⟨hs, e, n1, _⟩ := hashesK_nine (ks := rs.map (·.1)) (fun k hk => by obtain ⟨e, he, rfl⟩ := List.mem_map.mp hk; exact h e he) nd
  rw [keysT_rows, Option.bind_some, e]
  simpa using n1
theorem in_nine {k : Int × Int} (h1 : 0 ≤ k.1 ∧ k.1 < 3) (h2 : 0 ≤ k.2 ∧ k.2 < 3) : k ∈ nine := by
  obtain ⟨i, j⟩ := k
  obtain ⟨i, rfl⟩ := Int.eq_ofNat_of_zero_le h1.1
  obtain ⟨j, rfl⟩ := Int.eq_ofNat_of_zero_le h2.1
  exact mem_prs.mpr ⟨i, j, by simp at h1; omega, by simp at h2; omega, rfl⟩
theorem copyU_rows {s : S} {h : Hd} {rs : List Ent} (hd : dicOf s h = some (true, rowsU rs)) (hn : ∀ e ∈ rs, e.1 ∈ nine) (nd : (rs.map (·.1)).Nodup) : copyU s h = some (.od true (rowsU rs)) := by
  unfold copyU
  rw [hd]
  simp only [apart_rows hn nd, if_true]
theorem hits_self {rs ls : List Ent} (nd : (ls.map (·.1)).Nodup) (h : ∀ e ∈ rs, e ∈ ls) : hitsU (rowsU ls) (rowsU rs) = some true := by
  induction rs with
  | nil => rfl
  | cons e rs ih =>
    show hitsU (rowsU ls) ((u e.1, u e.2) :: rowsU rs) = _
    have hl : look true (rowsU ls) (u e.1) = some (some (u e.2)) := by
      rw [look_rows]
      congr 1
      have hm := h e (List.mem_cons_self ..)
      clear ih h
      induction ls with
      | nil => cases hm
      | cons a ls ih2 =>
        rw [List.map_cons, List.nodup_cons] at nd
        rw [List.find?_cons]
        by_cases q : a.1 = e.1
        · rcases List.mem_cons.mp hm with rfl | hm
          · simp
          · exact absurd (List.mem_map.mpr ⟨e, hm, rfl⟩) (q ▸ nd.1)
        · simp only [q, decide_false]
          rcases List.mem_cons.mp hm with rfl | hm
          · exact absurd rfl q
          · exact ih2 nd.2 hm
    rw [hitsU, hl, ih fun x hx => h x (List.mem_cons_of_mem _ hx)]
    simp only [eqU_enc (α := Rw) (by decide), decide_true, Bool.and_self]
end EL
set_option Elab.async false
set_option linter.all false
set_option maxRecDepth 100000
set_option maxHeartbeats 0
namespace K02
open PySem PySem.Spec PyProof.Rows L2 EL
def top (i : Nat) : Stmt := PySem.Challenge.pw_towerduel_k02_alike_and_after.main.body.getD i (.Pass ⟨0, 0, 0, 0⟩)
def inCls (s : Stmt) (j : Nat) : Stmt := match s with
  | .ClassDef (body := b) .. => b.getD j (.Pass ⟨0, 0, 0, 0⟩)
  | _ => .Pass ⟨0, 0, 0, 0⟩
def G : Glb := ⟨[("is_number", "is_number", 2), ("states_fit", "states_fit", 3), ("move_fits", "move_fits", 3), ("row_fits", "row_fits", 3), ("rows_fit", "rows_fit", 3), ("alike", "alike", 2), ("after", "after", 2), ("_law_draw", "_law_draw", 2), ("_law_source", "_law_source", 2), ("_law_choice", "_law_choice", 2), ("_law_row", "_law_row", 4), ("_law_parts", "_law_parts", 1), ("_law_turned", "_law_turned", 3), ("_law_other", "_law_other", 2), ("_law_same", "_law_same", 2)], [("MOST_LETTERS", 3), ("MOST_MOVES", 3), ("MOST_RANK", 2), ("MOST_STATES", 3)], ["bool", "enumerate", "int", "isinstance", "len", "list", "range", "tuple"], [(("Duel", "row"), "Duel.row", 3), (("Duel", "rows"), "Duel.rows", 1)], [("Duel", "sides"), ("Duel", "ranks"), ("Duel", "ends"), ("Duel", "letters"), ("Duel", "_rows")], [("Duel", "Duel.__init__", 6, true)], false⟩
def m_law_parts : M Fl :=
 (sSeq (sSet 1 (eBop .add (eC (.int 1)) (eCall "_law_draw" 2 (aCons (eVar 0) (aCons (eC (.int 3)) aNil)))))
 (sSeq (sSet 2 (eBop .add (eC (.int 1)) (eCall "_law_draw" 2 (aCons (eVar 0) (aCons (eC (.int 3)) aNil)))))
 (sSeq (sSet 3 (eCell (oDic true)))
 (sSeq (sFor (iRange (aCons (eVar 1) aNil)) (tgName 4)
 (sFor (iRange (aCons (eVar 2) aNil)) (tgName 5)
 (sIf (tV (eCop .gt (eCall "_law_draw" 2 (aCons (eVar 0) (aCons (eC (.int 3)) aNil))) (eC (.int 0))))
 (sItem (mSlot 3) (eTup (aCons (eVar 4) (aCons (eVar 5) aNil))) (eCall "_law_row" 4 (aCons (eVar 0) (aCons (eVar 1) (aCons (eVar 2) (aCons (eC (.int 3)) aNil))))))
 sNext)))
 (sSeq (sSet 6 (eTupleOf (hdl (eFz (oLC (iRange (aCons (eVar 1) aNil)) (tgName 7) (ret true) (eCall "_law_draw" 2 (aCons (eVar 0) (aCons (eC (.int 2)) aNil))) [7])))))
 (sSeq (sSet 8 (eTupleOf (hdl (eFz (oLC (iRange (aCons (eVar 1) aNil)) (tgName 7) (ret true) (eCall "_law_draw" 2 (aCons (eVar 0) (aCons (eC (.int 3)) aNil))) [7])))))
 (sRet (eFz (oLst (aCons (eVar 6) (aCons (eVar 8) (aCons (eTupleOf (hdl (eFz (oLC (iRange (aCons (eVar 1) aNil)) (tgName 7) (ret true) (eCall "_law_draw" 2 (aCons (eVar 0) (aCons (eC (.int 2)) aNil))) [7])))) (aCons (eVar 2) (aCons (eVar 3) aNil))))))))))))))
def m_law_turned : M Fl :=
 (sSeq (sOwn 3 (oListOf (mSlot 1)))
 (sSeq (sItem (mSlot 3) (eCall "_law_draw" 2 (aCons (eVar 0) (aCons (eLen (mSlot 3)) aNil))) (eCall "_law_draw" 2 (aCons (eVar 0) (aCons (eVar 2) aNil))))
 (sRet (eTupleOf (mSlot 3)))))
def m_law_other : M Fl :=
 (sSeq (sSet 2 (eCall "_law_draw" 2 (aCons (eVar 0) (aCons (eC (.int 7)) aNil))))
 (sSeq (sIf (tV (eCop .eq (eVar 2) (eC (.int 0))))
 (sRet (eCall "_law_parts" 1 (aCons (eVar 0) aNil)))
 sNext)
 (sSeq (sOwn 3 (oLst (aCons (eGet (mSlot 1) (eC (.int 0))) (aCons (eGet (mSlot 1) (eC (.int 1))) (aCons (eGet (mSlot 1) (eC (.int 2))) (aCons (eGet (mSlot 1) (eC (.int 3))) (aCons (eCell (oDCopy (hdl (eGet (mSlot 1) (eC (.int 4)))))) aNil)))))))
 (sSeq (sIf (tV (eCop .eq (eVar 2) (eC (.int 1))))
 (sItem (mSlot 3) (eC (.int 0)) (eCall "_law_turned" 3 (aCons (eVar 0) (aCons (eGet (mSlot 1) (eC (.int 0))) (aCons (eC (.int 2)) aNil)))))
 sNext)
 (sSeq (sIf (tV (eCop .eq (eVar 2) (eC (.int 2))))
 (sItem (mSlot 3) (eC (.int 1)) (eCall "_law_turned" 3 (aCons (eVar 0) (aCons (eGet (mSlot 1) (eC (.int 1))) (aCons (eC (.int 3)) aNil)))))
 sNext)
 (sSeq (sIf (tV (eCop .eq (eVar 2) (eC (.int 3))))
 (sItem (mSlot 3) (eC (.int 2)) (eCall "_law_turned" 3 (aCons (eVar 0) (aCons (eGet (mSlot 1) (eC (.int 2))) (aCons (eC (.int 2)) aNil)))))
 sNext)
 (sSeq (sIf (tAnd' (tV (eCop .eq (eVar 2) (eC (.int 4)))) (tV (eCop .lt (eGet (mSlot 1) (eC (.int 3))) (eC (.int 3)))))
 (sItem (mSlot 3) (eC (.int 3)) (eBop .add (eGet (mSlot 1) (eC (.int 3))) (eC (.int 1))))
 sNext)
 (sSeq (sIf (tV (eCop .eq (eVar 2) (eC (.int 5))))
 (sSeq (sSet 4 (eTup (aCons (eCall "_law_draw" 2 (aCons (eVar 0) (aCons (eLen (hdl (eGet (mSlot 1) (eC (.int 0))))) aNil))) (aCons (eCall "_law_draw" 2 (aCons (eVar 0) (aCons (eGet (mSlot 1) (eC (.int 3))) aNil))) aNil))))
 (sItem (hdl (eGet (mSlot 3) (eC (.int 4)))) (eVar 4) (eCall "_law_row" 4 (aCons (eVar 0) (aCons (eLen (hdl (eGet (mSlot 1) (eC (.int 0))))) (aCons (eGet (mSlot 1) (eC (.int 3))) (aCons (eC (.int 3)) aNil)))))))
 sNext)
 (sSeq (sIf (tV (eCop .eq (eVar 2) (eC (.int 6))))
 (sItem (hdl (eGet (mSlot 3) (eC (.int 4)))) (eTup (aCons (eC (.int 0)) (aCons (eC (.int 0)) aNil))) (eGetD (hdl (eGet (mSlot 3) (eC (.int 4)))) (eTup (aCons (eC (.int 0)) (aCons (eC (.int 0)) aNil))) (eTup aNil)))
 sNext)
 (sRet (eVar 3)))))))))))
def m_law_same : M Fl :=
 (sSeq (sIf (tV (eCop .ne (eSl (mSlot 0) pNone (pSome (eC (.int 4)))) (eSl (mSlot 1) pNone (pSome (eC (.int 4))))))
 (sRet (eC (.bl false)))
 sNext)
 (sSeq (sFor (iRange (aCons (eLen (hdl (eGet (mSlot 0) (eC (.int 0))))) aNil)) (tgName 2)
 (sFor (iRange (aCons (eGet (mSlot 0) (eC (.int 3))) aNil)) (tgName 3)
 (sIf (tV (eCop .ne (eGetD (hdl (eGet (mSlot 0) (eC (.int 4)))) (eTup (aCons (eVar 2) (aCons (eVar 3) aNil))) (eTup aNil)) (eGetD (hdl (eGet (mSlot 1) (eC (.int 4)))) (eTup (aCons (eVar 2) (aCons (eVar 3) aNil))) (eTup aNil))))
 (sRet (eC (.bl false)))
 sNext)))
 (sRet (eC (.bl true)))))
def m_law : M Fl :=
 (sSeq (sSet 1 (eCall "_law_source" 2 (aCons (eVar 0) (aCons (eC (.int 0)) aNil))))
 (sSeq (sSet 2 (eCall "_law_parts" 1 (aCons (eVar 1) aNil)))
 (sSeq (sSet 3 (eCall "_law_other" 2 (aCons (eVar 1) (aCons (eVar 2) aNil))))
 (sSeq (sSet 4 (eFz (oDCopy (hdl (eGet (mSlot 2) (eC (.int 4)))))))
 (sSeq (sSet 5 (eMake "Duel" "Duel.__init__" 6 true (aCons (eGet (mSlot 2) (eC (.int 0))) (aCons (eGet (mSlot 2) (eC (.int 1))) (aCons (eGet (mSlot 2) (eC (.int 2))) (aCons (eGet (mSlot 2) (eC (.int 3))) (aCons (eGet (mSlot 2) (eC (.int 4))) aNil)))))))
 (sSeq (sIf (tV (eEqH true (hdl (eGet (mSlot 2) (eC (.int 4)))) (mSlot 4)))
 (sRet (eC (.bl false)))
 sNext)
 (sSeq (sSet 6 (eMake "Duel" "Duel.__init__" 6 true (aCons (eGet (mSlot 3) (eC (.int 0))) (aCons (eGet (mSlot 3) (eC (.int 1))) (aCons (eGet (mSlot 3) (eC (.int 2))) (aCons (eGet (mSlot 3) (eC (.int 3))) (aCons (eGet (mSlot 3) (eC (.int 4))) aNil)))))))
 (sSeq (sIf (tOr' (tV (eEqH true (hdl (eCall "alike" 2 (aCons (eVar 5) (aCons (eVar 6) aNil)))) (hdl (eCall "_law_same" 2 (aCons (eVar 2) (aCons (eVar 3) aNil)))))) (tNot' (tTru (hdl (eCall "alike" 2 (aCons (eVar 5) (aCons (eVar 5) aNil)))))))
 (sRet (eC (.bl false)))
 sNext)
 (sSeq (sSet 7 (eTupleOf (hdl (eFz (oLC (iRange (aCons (eBop .add (eC (.int 1)) (eCall "_law_draw" 2 (aCons (eVar 1) (aCons (eC (.int 6)) aNil)))) aNil)) (tgName 8) (ret true) (eCall "_law_draw" 2 (aCons (eVar 1) (aCons (eC (.int 3)) aNil))) [8])))))
 (sSeq (sSet 9 (eTup (aCons (eCall "_law_draw" 2 (aCons (eVar 1) (aCons (eC (.int 3)) aNil))) (aCons (eTupleOf (hdl (eFz (oLC (iRange (aCons (eCall "_law_draw" 2 (aCons (eVar 1) (aCons (eC (.int 3)) aNil))) aNil)) (tgName 8) (ret true) (eCall "_law_draw" 2 (aCons (eVar 1) (aCons (eC (.int 3)) aNil))) [8])))) aNil))))
 (sSeq (sAsgT (eCall "after" 2 (aCons (eVar 7) (aCons (eVar 9) aNil))) (tgTup 2 (tgsCons (tgName 10) (tgsCons (tgName 11) tgsNil))))
 (sRet (eAnd (eEqH false (mSlot 10) (hdl (eGet (mSlot 9) (eC (.int 0))))) (eAnd (eEqH false (hdl (eListOf (mSlot 11))) (hdl (eBop .add (eListOf (hdl (eGet (mSlot 9) (eC (.int 1))))) (eListOf (hdl (eSl (mSlot 7) (pSome (eC (.int 1))) pNone)))))) (eIsi "tuple" (eVar 11))))))))))))))))
abbrev s_is_number : Stmt := top 8
def e_is_number : DE := { d := ⟨("is_number", none), "is_number", "is_number", defArgs s_is_number, defBody s_is_number, defScope s_is_number, [], []⟩, N := ["value", "most"], ps := ["value", "most"], own := [], tk := [], cell := false, m := PM.m_is_number, self := "", mo := [], dk := true, dq := false }
theorem ok_is_number : e_is_number.Ok G := ⟨scopeB_ok (by kernel_rfl), chk_body (n := 60) (by kernel_rfl), rfl, rfl, fun _ _ _ _ _ _ us hl => match us, hl with | [_, _], _ => rfl⟩
abbrev s_states_fit : Stmt := top 9
def e_states_fit : DE := { d := ⟨("states_fit", none), "states_fit", "states_fit", defArgs s_states_fit, defBody s_states_fit, defScope s_states_fit, [], []⟩, N := ["sides", "ranks", "ends", "row", "most", "value"], ps := ["sides", "ranks", "ends"], own := [], tk := [], cell := false, m := PM.m_states_fit, self := "", mo := [], dk := true, dq := false }
theorem ok_states_fit : e_states_fit.Ok G := ⟨scopeB_ok (by kernel_rfl), chk_body (n := 60) (by kernel_rfl), rfl, rfl, fun _ _ _ _ _ _ us hl => match us, hl with | [_, _, _], _ => rfl⟩
abbrev s_move_fits : Stmt := top 10
def e_move_fits : DE := { d := ⟨("move_fits", none), "move_fits", "move_fits", defArgs s_move_fits, defBody s_move_fits, defScope s_move_fits, [], []⟩, N := ["move", "states", "letters", "word", "letter"], ps := ["move", "states", "letters"], own := [], tk := [], cell := false, m := PM.m_move_fits, self := "", mo := [], dk := true, dq := false }
theorem ok_move_fits : e_move_fits.Ok G := ⟨scopeB_ok (by kernel_rfl), chk_body (n := 60) (by kernel_rfl), rfl, rfl, fun _ _ _ _ _ _ us hl => match us, hl with | [_, _, _], _ => rfl⟩
abbrev s_row_fits : Stmt := top 11
def e_row_fits : DE := { d := ⟨("row_fits", none), "row_fits", "row_fits", defArgs s_row_fits, defBody s_row_fits, defScope s_row_fits, [], []⟩, N := ["row", "states", "letters", "number", "move"], ps := ["row", "states", "letters"], own := [], tk := [], cell := false, m := PM.m_row_fits, self := "", mo := [], dk := true, dq := false }
theorem ok_row_fits : e_row_fits.Ok G := ⟨scopeB_ok (by kernel_rfl), chk_body (n := 60) (by kernel_rfl), rfl, rfl, fun _ _ _ _ _ _ us hl => match us, hl with | [_, _, _], _ => rfl⟩
abbrev s_rows_fit : Stmt := top 12
def e_rows_fit : DE := { d := ⟨("rows_fit", none), "rows_fit", "rows_fit", defArgs s_rows_fit, defBody s_rows_fit, defScope s_rows_fit, [], []⟩, N := ["rows", "states", "letters", "key", "row"], ps := ["rows", "states", "letters"], own := [], tk := [], cell := false, m := PM.m_rows_fit, self := "", mo := [], dk := true, dq := false }
theorem ok_rows_fit : e_rows_fit.Ok G := ⟨scopeB_ok (by kernel_rfl), chk_body (n := 60) (by kernel_rfl), rfl, rfl, fun _ _ _ _ _ _ us hl => match us, hl with | [_, _, _], _ => rfl⟩
abbrev s_alike : Stmt := top 14
def e_alike : DE := { d := ⟨("alike", none), "alike", "alike", defArgs s_alike, defBody s_alike, defScope s_alike, [], []⟩, N := ["one", "other"], ps := ["one", "other"], own := [], tk := [], cell := false, m := PM.m_alike, self := "", mo := [], dk := true, dq := true }
theorem ok_alike : e_alike.Ok G := ⟨scopeB_ok (by kernel_rfl), chk_body (n := 60) (by kernel_rfl), rfl, rfl, fun _ _ _ _ _ _ us hl => match us, hl with | [_, _], _ => rfl⟩
abbrev s_after : Stmt := top 15
def e_after : DE := { d := ⟨("after", none), "after", "after", defArgs s_after, defBody s_after, defScope s_after, [], []⟩, N := ["stack", "move"], ps := ["stack", "move"], own := [], tk := [], cell := false, m := PM.m_after, self := "", mo := [], dk := true, dq := false }
theorem ok_after : e_after.Ok G := ⟨scopeB_ok (by kernel_rfl), chk_body (n := 60) (by kernel_rfl), rfl, rfl, fun _ _ _ _ _ _ us hl => match us, hl with | [_, _], _ => rfl⟩
abbrev s_law_draw : Stmt := top 17
def e_law_draw : DE := { d := ⟨("_law_draw", none), "_law_draw", "_law_draw", defArgs s_law_draw, defBody s_law_draw, defScope s_law_draw, [], []⟩, N := ["src", "many", "value"], ps := ["src", "many"], own := [], tk := [], cell := false, m := PM.m_law_draw, self := "", mo := [], dk := true, dq := false }
theorem ok_law_draw : e_law_draw.Ok G := ⟨scopeB_ok (by kernel_rfl), chk_body (n := 60) (by kernel_rfl), rfl, rfl, fun _ _ _ _ _ _ us hl => match us, hl with | [_, _], _ => rfl⟩
abbrev s_law_source : Stmt := top 18
def e_law_source : DE := { d := ⟨("_law_source", none), "_law_source", "_law_source", defArgs s_law_source, defBody s_law_source, defScope s_law_source, [], []⟩, N := ["script", "k", "cell", "mixed", "j"], ps := ["script", "k"], own := [], tk := [], cell := true, m := PM.m_law_source, self := "", mo := [], dk := true, dq := false }
theorem ok_law_source : e_law_source.Ok G := ⟨scopeB_ok (by kernel_rfl), chk_body (n := 60) (by kernel_rfl), rfl, rfl, fun _ _ _ _ _ _ us hl => match us, hl with | [_, _], _ => rfl⟩
abbrev s_law_choice : Stmt := top 19
def e_law_choice : DE := { d := ⟨("_law_choice", none), "_law_choice", "_law_choice", defArgs s_law_choice, defBody s_law_choice, defScope s_law_choice, [], []⟩, N := ["src", "options"], ps := ["src", "options"], own := [], tk := [], cell := false, m := PM.m_law_choice, self := "", mo := [], dk := true, dq := false }
theorem ok_law_choice : e_law_choice.Ok G := ⟨scopeB_ok (by kernel_rfl), chk_body (n := 60) (by kernel_rfl), rfl, rfl, fun _ _ _ _ _ _ us hl => match us, hl with | [_, _], _ => rfl⟩
abbrev s_law_row : Stmt := top 20
def e_law_row : DE := { d := ⟨("_law_row", none), "_law_row", "_law_row", defArgs s_law_row, defBody s_law_row, defScope s_law_row, [], []⟩, N := ["src", "states", "letters", "most", "row", "k", "size", "move", "j"], ps := ["src", "states", "letters", "most"], own := [4], tk := [], cell := false, m := PM.m_law_row, self := "", mo := [], dk := true, dq := false }
theorem ok_law_row : e_law_row.Ok G := ⟨scopeB_ok (by kernel_rfl), chk_body (n := 60) (by kernel_rfl), rfl, rfl, fun _ _ _ _ _ _ us hl => match us, hl with | [_, _, _, _], _ => rfl⟩
abbrev s_law_parts : Stmt := top 21
def e_law_parts : DE := { d := ⟨("_law_parts", none), "_law_parts", "_law_parts", defArgs s_law_parts, defBody s_law_parts, defScope s_law_parts, [], []⟩, N := ["src", "states", "letters", "rows", "state", "letter", "sides", "k", "ranks"], ps := ["src"], own := [], tk := [], cell := false, m := m_law_parts, self := "", mo := [], dk := true, dq := false, cx := [(109, 11)] }
theorem ok_law_parts : e_law_parts.Ok G := ⟨scopeB_ok (by kernel_rfl), chk_body (n := 60) (by kernel_rfl), rfl, rfl, fun _ _ _ _ _ _ us hl => match us, hl with | [_], _ => rfl⟩
abbrev s_law_turned : Stmt := top 22
def e_law_turned : DE := { d := ⟨("_law_turned", none), "_law_turned", "_law_turned", defArgs s_law_turned, defBody s_law_turned, defScope s_law_turned, [], []⟩, N := ["src", "values", "most", "told"], ps := ["src", "values", "most"], own := [3], tk := [], cell := false, m := m_law_turned, self := "", mo := [], dk := true, dq := false }
theorem ok_law_turned : e_law_turned.Ok G := ⟨scopeB_ok (by kernel_rfl), chk_body (n := 60) (by kernel_rfl), rfl, rfl, fun _ _ _ _ _ _ us hl => match us, hl with | [_, _, _], _ => rfl⟩
abbrev s_law_other : Stmt := top 23
def e_law_other : DE := { d := ⟨("_law_other", none), "_law_other", "_law_other", defArgs s_law_other, defBody s_law_other, defScope s_law_other, [], []⟩, N := ["src", "parts", "kind", "told", "key"], ps := ["src", "parts"], own := [3], tk := [], cell := false, m := m_law_other, self := "", mo := [], dk := true, dq := false, cx := [(125, 52)] }
theorem ok_law_other : e_law_other.Ok G := ⟨scopeB_ok (by kernel_rfl), chk_body (n := 60) (by kernel_rfl), rfl, rfl, fun _ _ _ _ _ _ us hl => match us, hl with | [_, _], _ => rfl⟩
abbrev s_law_same : Stmt := top 24
def e_law_same : DE := { d := ⟨("_law_same", none), "_law_same", "_law_same", defArgs s_law_same, defBody s_law_same, defScope s_law_same, [], []⟩, N := ["one", "other", "state", "letter"], ps := ["one", "other"], own := [], tk := [], cell := false, m := m_law_same, self := "", mo := [], dk := true, dq := false }
theorem ok_law_same : e_law_same.Ok G := ⟨scopeB_ok (by kernel_rfl), chk_body (n := 60) (by kernel_rfl), rfl, rfl, fun _ _ _ _ _ _ us hl => match us, hl with | [_, _], _ => rfl⟩
abbrev s_law : Stmt := top 25
def e_law : DE := { d := ⟨("law", none), "law", "law", defArgs s_law, defBody s_law, defScope s_law, [], []⟩, N := ["script", "src", "one", "other", "kept", "first", "second", "stack", "k", "move", "state", "behind"], ps := ["script"], own := [], tk := [], cell := false, m := m_law, self := "", mo := [], dk := true, dq := true }
theorem ok_law : e_law.Ok G := ⟨scopeB_ok (by kernel_rfl), chk_body (n := 60) (by kernel_rfl), rfl, rfl, fun _ _ _ _ _ _ us hl => match us, hl with | [_], _ => rfl⟩
abbrev s_Duel___init__ : Stmt := inCls (top 13) 0
def e_Duel___init__ : DE := { d := ⟨("Duel", some ("__init__" : Str)), "__init__", "Duel.__init__", defArgs s_Duel___init__, defBody s_Duel___init__, defScope s_Duel___init__, [], []⟩, N := ["self", "sides", "ranks", "ends", "letters", "rows", "key", "row"], ps := ["self", "sides", "ranks", "ends", "letters", "rows"], own := [], tk := [], cell := false, m := PM.m_Duel___init__, self := "Duel", mo := [], dk := true, dq := false }
theorem ok_Duel___init__ : e_Duel___init__.Ok G := ⟨scopeB_ok (by kernel_rfl), chk_body (n := 60) (by kernel_rfl), rfl, rfl, fun _ _ _ _ _ _ us hl => match us, hl with | [_, _, _, _, _, _], _ => rfl⟩
abbrev s_Duel_row : Stmt := inCls (top 13) 1
def e_Duel_row : DE := { d := ⟨("Duel", some ("row" : Str)), "row", "Duel.row", defArgs s_Duel_row, defBody s_Duel_row, defScope s_Duel_row, [], []⟩, N := ["self", "state", "letter"], ps := ["self", "state", "letter"], own := [], tk := [], cell := false, m := PM.m_Duel_row, self := "Duel", mo := [], dk := true, dq := false }
theorem ok_Duel_row : e_Duel_row.Ok G := ⟨scopeB_ok (by kernel_rfl), chk_body (n := 60) (by kernel_rfl), rfl, rfl, fun _ _ _ _ _ _ us hl => match us, hl with | [_, _, _], _ => rfl⟩
abbrev s_Duel_rows : Stmt := inCls (top 13) 2
def e_Duel_rows : DE := { d := ⟨("Duel", some ("rows" : Str)), "rows", "Duel.rows", defArgs s_Duel_rows, defBody s_Duel_rows, defScope s_Duel_rows, [], []⟩, N := ["self", "pairs", "state", "letter", "pair"], ps := ["self"], own := [], tk := [], cell := false, m := PM.m_Duel_rows, self := "Duel", mo := [], dk := true, dq := false }
theorem ok_Duel_rows : e_Duel_rows.Ok G := ⟨scopeB_ok (by kernel_rfl), chk_body (n := 60) (by kernel_rfl), rfl, rfl, fun _ _ _ _ _ _ us hl => match us, hl with | [_], _ => rfl⟩
def tb : List DE := [e_is_number, e_states_fit, e_move_fits, e_row_fits, e_rows_fit, e_alike, e_after, e_law_draw, e_law_source, e_law_choice, e_law_row, e_law_parts, e_law_turned, e_law_other, e_law_same, e_law, e_Duel___init__, e_Duel_row, e_Duel_rows]
def fa : List He.Fa := (([.glo "is_number", .glo "states_fit", .glo "move_fits", .glo "row_fits", .glo "rows_fit", .glo "alike", .glo "after", .glo "_law_draw", .glo "_law_source", .glo "_law_choice", .glo "_law_row", .glo "_law_parts", .glo "_law_turned", .glo "_law_other", .glo "_law_same", .glo "law", .int "MOST_LETTERS" 3, .int "MOST_MOVES" 3, .int "MOST_RANK" 2, .int "MOST_STATES" 3] : List (He.Fa)) ++ ([.free "bool", .free "enumerate", .free "int", .free "isinstance", .free "len", .free "list", .free "range", .free "tuple", .glo "Duel", .cls "Duel", .meth "Duel" "row", .meth "Duel" "rows", .noat "Duel" "sides", .noat "Duel" "ranks", .noat "Duel" "ends", .noat "Duel" "letters", .noat "Duel" "_rows", .mkr "Duel"] : List (He.Fa)))
theorem txt : TxtOk G tb fa := txt_by (by kernel_rfl) (by kernel_rfl) (by kernel_rfl) (by kernel_rfl) (by kernel_rfl) (by kernel_rfl) (by
  unfold tb
  simp only [List.forall_mem_append, List.forall_mem_cons]
  exact ⟨ok_is_number, ok_states_fit, ok_move_fits, ok_row_fits, ok_rows_fit, ok_alike, ok_after, ok_law_draw, ok_law_source, ok_law_choice, ok_law_row, ok_law_parts, ok_law_turned, ok_law_other, ok_law_same, ok_law, ok_Duel___init__, ok_Duel_row, ok_Duel_rows, fun _ h => nomatch h⟩)
abbrev R : PySem.W.OpenRow := PySem.W.OpenLaw.row PySem.Challenge.rw_towerduel_k02_alike_and_after
abbrev fn : List He.DefD := tb.map (·.d)
abbrev hk : PySem.W.Hook := He.hookX 5 fa fn [] (tabDs tb) (fun _ => true)
def ob (s : PySem.W.SharedT) : He.AlX := He.obsX 5 fa fn [] (tabDs tb) (fun _ => true) (HandSHeadRun.getT s)
theorem ob_eq (s : PySem.W.SharedT) : ob s = hk.obs s.abs := He.obsX_eq (HandSHeadRun.getT_eq s)
abbrev vw : Program := PySem.W.view R.prog [25]
abbrev loose : List Str := (["DuelError", "ShapeError", "MOST_STATES", "MOST_LETTERS", "MOST_MOVES", "MOST_RANK", "is_number", "states_fit", "move_fits", "row_fits", "rows_fit", "Duel", "alike", "after", "_law_draw", "_law_source", "_law_choice", "_law_row", "_law_parts", "_law_turned"] : List Str) ++ (["_law_other", "_law_same"] : List Str)
theorem run (w : World) : HandSHeadRun.RunEq R vw hk ob 6000 loose w := by
  intro os
  kernel_rfl
end K02
set_option Elab.async false
set_option linter.all false
set_option maxRecDepth 100000
set_option maxHeartbeats 0
/-! K02L: the drawn parts. -/
namespace K02
open PySem (Str PyData)
open PySem.W (Datum DatumOrd Tup)
open EL
open Enc (u)
abbrev tt : Tab := tabOf tb
theorem h_draw : tt "_law_draw" = some PM.t_law_draw := by kernel_rfl
theorem h_choice : tt "_law_choice" = some PM.t_law_choice := by kernel_rfl
theorem h_row : tt "_law_row" = some PM.t_law_row := by kernel_rfl
theorem h_source : tt "_law_source" = some PM.t_law_source := by kernel_rfl
theorem hT : DuelT tt := ⟨by kernel_rfl, by kernel_rfl, by kernel_rfl, by kernel_rfl, by kernel_rfl, by kernel_rfl, by kernel_rfl, by kernel_rfl⟩
theorem h_alike : tt "alike" = some PM.t_alike := by kernel_rfl
theorem h_after : tt "after" = some PM.t_after := by kernel_rfl
theorem h_parts : tt "_law_parts" = some (1, 9, m_law_parts) := by kernel_rfl
theorem h_turned : tt "_law_turned" = some (3, 4, m_law_turned) := by kernel_rfl
theorem h_other : tt "_law_other" = some (2, 5, m_law_other) := by kernel_rfl
theorem h_same : tt "_law_same" = some (2, 4, m_law_same) := by kernel_rfl
theorem h_law : tt "law" = some (1, 12, m_law) := by kernel_rfl
/-- parts as a list, the rows in cell i -/
def pU (d : DD) (i : Nat) : U := .lst [tU d.sides, tU d.ranks, tU d.ends, .int d.letters, .ref i]
def partsInv (st lt : Nat) (c : Int) (rest : List EO) (i j : Nat) (s : S) : Prop := ∃ (rs : List Ent) (x4 x5 : SV) (a b : Int), s = ⟨[.val (.ref 0), .val (.int (st : Int)), .val (.int (lt : Int)), .val (.ref (rest.length + 1)), x4, x5, .no, .no, .no], srcO a b c :: (rest ++ [.dic true (rowsU rs)])⟩ ∧ DRows st lt 3 i j rs
section
variable {n : Nat} {rest : List EO}
theorem parts_wq {a b c : Int} {Q : U → List EO → Prop} {E : Str → Str → U → List EO → Prop}
    (h : ∀ (d : DD) (st lt : Nat) (a' b' : Int), DrawnD st lt 3 d → 1 ≤ st → st ≤ 3 → 1 ≤ lt → lt ≤ 3 → d.rows.length ≤ 20 → Q (pU d (rest.length + 1)) (srcO a' b' c :: (rest ++ [.dic true (rowsU d.rows)]))) : wq (phiT tt (n + 4)) "_law_parts" [.ref 0] (srcO a b c :: rest) Q E := by
  rw [wq_call h_parts rfl]
  unfold m_law_parts mkEnv
  simp [List.replicate]
  refine draw h_draw (by omega) (by omega) fun v1 a1 b1 p0 p1 => ?_
  obtain ⟨s0, rfl⟩ := Int.eq_ofNat_of_zero_le p0
  simp
  refine draw h_draw (by omega) (by omega) fun v2 a2 b2 q0 q1 => ?_
  obtain ⟨l0, rfl⟩ := Int.eq_ofNat_of_zero_le q0
  simp [cellOf]
  rw [show (1 : Int) + (s0 : Int) = ((1 + s0 : Nat) : Int) by omega, show (1 : Int) + (l0 : Int) = ((1 + l0 : Nat) : Int) by omega]
  have hs3 : 1 + s0 ≤ 3 := by omega
  have hl3 : 1 + l0 ≤ 3 := by omega
  generalize hst : 1 + s0 = st at *
  generalize hlt : 1 + l0 = lt at *
  rw [rng1_of (by omega) (by omega), Int.toNat_natCast, oB_some]
  refine wp_forN (fun i s => partsInv st lt c rest i 0 s) ?_ ?_ ?_
  · exact ⟨[], _, _, a2, b2, rfl, fun e he => (nomatch he), fun e he => (nomatch he), List.nodup_nil, Nat.zero_le _⟩
  · rintro i hi s ⟨rs, x4, x5, a, b, rfl, dr⟩
    simp
    rw [rng1_of (by omega) (by omega), Int.toNat_natCast, oB_some]
    refine wp_forN (fun j s => partsInv st lt c rest i j s ∧ s.env[4]? = some (.val (.int (i : Int)))) ?_ ?_ ?_
    · exact ⟨⟨rs, _, _, _, _, rfl, dr⟩, rfl⟩
    · rintro j hj s ⟨⟨rs, x4, x5, a, b, rfl, dr⟩, g⟩
      simp at g
      subst g
      simp
      refine draw h_draw (by omega) (by omega) fun v a6 b6 v0 v1 => ?_
      rw [cop_gt, oB_some]
      split
      · refine law_row_wq h_draw h_choice h_row (by omega) (by omega) (by omega) fun r a5 b5 ok => ?_
        obtain ⟨hk, dn⟩ := dr.new (r := r) (by omega) (by omega) ok
        have few := dr.few
        have kk : U.tup [.int (i : Int), .int (j : Int)] = u ((i : Int), (j : Int)) := rfl
        have p := put_new (rs := rs) (k := ((i : Int), (j : Int))) (r := ⟨r⟩) (by unfold line; omega) hk
        simp [kk, itemS, lstH, dcH, setD, p, line]
        exact ⟨rs ++ [(((i : Int), (j : Int)), ⟨r⟩)], .val (.int (i : Int)), .val (.int (j : Int)), a5, b5, by simp, dn⟩
      · exact ⟨_, _, _, _, _, rfl, dr.skip⟩
    · rintro s ⟨⟨rs, x4, x5, a, b, rfl, dr⟩, g⟩
      exact ⟨rs, _, _, _, _, rfl, dr.turn (by omega)⟩
  · rintro s ⟨rs, x4, x5, a, b, rfl, dr⟩
    simp
    refine drawn_list h_draw (by omega) (fun k => k = st) rfl (by omega) rfl (rng_known (by omega) rfl) fun xs a1 b1 l1 k1 => ?_
    simp [tupleU, seqOf]
    refine drawn_list h_draw (by omega) (fun k => k = st) rfl (by omega) rfl (rng_known (by omega) rfl) fun ys a2 b2 l2 k2 => ?_
    simp [tupleU, seqOf]
    refine drawn_list h_draw (by omega) (fun k => k = st) rfl (by omega) rfl (rng_known (by omega) rfl) fun zs a3 b3 l3 k3 => ?_
    simp [tupleU, seqOf, line]
    have few := dr.few
    exact h ⟨xs, ys, zs, lt, rs⟩ st lt a3 b3 ⟨by simp [l1], by simp [l2], by simp [l3], k1, k2, k3, rfl, dr.keys, dr.nd⟩ (by omega) hs3 (by omega) hl3 (by show rs.length ≤ 20; omega)
/-- a number of a row drawn anew -/
theorem turned_wq {a b c m : Int} {xs : List Int} (h0 : 0 < xs.length) (h1 : xs.length < 1000) (hm : 0 < m ∧ m < 1000) {Q : U → List EO → Prop} {E : Str → Str → U → List EO → Prop}
    (h : ∀ (ys : List Int) (a' b' : Int), ys.length = xs.length → (∀ y ∈ ys, y ∈ xs ∨ 0 ≤ y ∧ y < m) → Q (tU ys) (srcO a' b' c :: rest)) : wq (phiT tt (n + 4)) "_law_turned" [.ref 0, tU xs, .int m] (srcO a b c :: rest) Q E := by
  rw [wq_call h_turned rfl]
  unfold m_law_turned mkEnv
  simp [List.replicate, seqOf]
  refine draw h_draw (by omega) (by omega) fun v a1 b1 p0 p1 => ?_
  simp [lenU, seqOf]
  refine draw h_draw (by omega) (by omega) fun k a2 b2 q0 q1 => ?_
  obtain ⟨k, rfl⟩ := Int.eq_ofNat_of_zero_le q0
  have hk : k < xs.length := by omega
  have e : L2.ixN (xs.map U.int).length (k : Int) = some k := by
    unfold L2.ixN
    simp
    exact hk
  simp at e
  simp [itemS, lstH, setH, e, setE, tupleU, seqOf]
  have e2 : (xs.map U.int).set k (.int v) = (xs.set k v).map U.int := by rw [List.map_set]
  rw [e2]
  refine h (xs.set k v) _ _ (by simp) fun y hy => ?_
  rcases List.mem_or_eq_of_mem_set hy with z | z
  · exact .inl z
  · right; rw [z]; exact ⟨p0, p1⟩
theorem atI3 {α : Type} {xs : List α} : L2.atI xs 3 = xs[3]? := atI_nat (n := 3)
theorem atI4 {α : Type} {xs : List α} : L2.atI xs 4 = xs[4]? := atI_nat (n := 4)
theorem getDU_rows {s : S} {h : Hd} {d : DD} {k : Int × Int} (hd : dicOf s h = some (true, rowsU d.rows)) : getDU s h (u k) (.tup []) = some (u (d.row k)) := by
  unfold getDU
  rw [hd]
  simp only [look_rows]
  unfold DD.row
  cases d.rows.find? fun e => decide (e.1 = k) <;> rfl
theorem rowok_row {st lt : Int} {d : DD} (h : DrawnD st lt 3 d) (k : Int × Int) : RowOk st lt 3 (d.row k).items := by
  unfold DD.row
  cases e : d.rows.find? fun e => decide (e.1 = k) with
  | none => exact ⟨fun p hp => (nomatch hp), List.nodup_nil, by simp⟩
  | some z => exact (h.keys z (List.mem_of_find?_eq_some e)).2.2
theorem drawn_put {st lt : Int} {d : DD} (h : DrawnD st lt 3 d) {k : Int × Int} {r : Rw} (h1 : 0 ≤ k.1 ∧ k.1 < st) (h2 : 0 ≤ k.2 ∧ k.2 < lt) (hr : RowOk st lt 3 r.items) : DrawnD st lt 3 { d with rows := putR d.rows k r } := by
  refine { h with keys := fun e he => ?_, nd := ?_ }
  · rcases putR_mem he with rfl | he
    · exact ⟨h1, h2, hr⟩
    · exact h.keys e he
  · show ((putR d.rows k r).map (·.1)).Nodup
    rw [putR_keys]
    split
    · exact h.nd
    · rename_i z
      rw [List.nodup_append]
      exact ⟨h.nd, by simp, fun x hx y hy => by rw [List.mem_singleton.mp hy]; exact fun q => z (q ▸ hx)⟩
theorem putR_len {rs : List Ent} {k : Int × Int} {r : Rw} : (putR rs k r).length ≤ rs.length + 1 := by
  unfold putR
  split <;> simp
theorem drawn_more {st lt : Int} {d : DD} (h : DrawnD st lt 3 d) : DrawnD st (lt + 1) 3 { d with letters := d.letters + 1 } := by
  refine { h with letters := by show d.letters + 1 = lt + 1; rw [h.letters], keys := fun e he => ?_ }
  obtain ⟨q1, q2, q3⟩ := h.keys e he
  refine ⟨q1, ⟨q2.1, by omega⟩, ⟨fun p hp => ?_, q3.nd, q3.len⟩⟩
  obtain ⟨z1, z2, z3⟩ := q3.mv p hp
  exact ⟨z1, z2, fun x hx => ⟨(z3 x hx).1, by have := (z3 x hx).2; omega⟩⟩
theorem p0 {s : S} {d : DD} {i : Nat} : getU s (.u (pU d i)) (.int 0) = some (tU d.sides) := rfl
theorem p1 {s : S} {d : DD} {i : Nat} : getU s (.u (pU d i)) (.int 1) = some (tU d.ranks) := rfl
theorem p2 {s : S} {d : DD} {i : Nat} : getU s (.u (pU d i)) (.int 2) = some (tU d.ends) := rfl
theorem p3 {s : S} {d : DD} {i : Nat} : getU s (.u (pU d i)) (.int 3) = some (.int d.letters) := rfl
theorem p4 {s : S} {d : DD} {i : Nat} : getU s (.u (pU d i)) (.int 4) = some (.ref i) := rfl
section
variable {v0 v1 v2 v4 : SV} {a b c d e x : U} {hp : List EO}
theorem t4 : getU ⟨[v0, v1, v2, .ol [a, b, c, d, e], v4], hp⟩ (.sl 3) (.int 4) = some e := rfl
theorem i0 : itemS ⟨[v0, v1, v2, .ol [a, b, c, d, e], v4], hp⟩ (.sl 3) (.int 0) x = some (.nx, ⟨[v0, v1, v2, .ol [x, b, c, d, e], v4], hp⟩) := rfl
theorem i1 : itemS ⟨[v0, v1, v2, .ol [a, b, c, d, e], v4], hp⟩ (.sl 3) (.int 1) x = some (.nx, ⟨[v0, v1, v2, .ol [a, x, c, d, e], v4], hp⟩) := rfl
theorem i2 : itemS ⟨[v0, v1, v2, .ol [a, b, c, d, e], v4], hp⟩ (.sl 3) (.int 2) x = some (.nx, ⟨[v0, v1, v2, .ol [a, b, x, d, e], v4], hp⟩) := rfl
theorem i3 : itemS ⟨[v0, v1, v2, .ol [a, b, c, d, e], v4], hp⟩ (.sl 3) (.int 3) x = some (.nx, ⟨[v0, v1, v2, .ol [a, b, c, x, e], v4], hp⟩) := rfl
theorem ic {env : List SV} {o1 o2 : EO} {rs : List Ent} {k : Int × Int} {r : Rw} (hl : rs.length < 1000) : itemS ⟨env, [o1, o2, .dic true (rowsU rs)]⟩ (.u (.ref 2)) (u k) (u r) = some (.nx, ⟨env, [o1, o2, .dic true (rowsU (putR rs k r))]⟩) := by
  have p := put_rows (rs := rs) (k := k) (r := r) hl
  show (put true (rowsU rs) (u k) (u r)).map _ = _
  rw [p]; rfl
end
end
end K02
set_option Elab.async false
set_option linter.all false
set_option maxRecDepth 100000
set_option maxHeartbeats 0
/-! K02L: the drawn parts. -/
namespace K02
open PySem (Str PyData)
open PySem.W (Datum DatumOrd Tup)
open EL
open Enc (u)
section
variable {n : Nat} {rest : List EO}
theorem other_wq {a b c : Int} {d : DD} {st lt : Nat} (dr : DrawnD st lt 3 d) (s1 : 1 ≤ st) (s3 : st ≤ 3) (l1 : 1 ≤ lt) (l3 : lt ≤ 3) (few : d.rows.length ≤ 20) {Q : U → List EO → Prop} {E : Str → Str → U → List EO → Prop}
    (h : ∀ (e : DD) (a' b' : Int), e.ok → Q (pU e 2) [srcO a' b' c, .dic true (rowsU d.rows), .dic true (rowsU e.rows)]) : wq (phiT tt (n + 5)) "_law_other" [.ref 0, pU d 1] [srcO a b c, .dic true (rowsU d.rows)] Q E := by
  rw [wq_call h_other rfl]
  unfold m_law_other mkEnv
  have okd : ∀ {lt : Nat} {e : DD}, DrawnD st lt 3 e → 1 ≤ lt → lt ≤ 3 → e.rows.length ≤ 21 → e.ok := fun de l1 l3 hf => de.ok (by omega) (by omega) (by omega) (by omega)
  have nn : ∀ e ∈ d.rows, e.1 ∈ nine := fun e he => by
    obtain ⟨q1, q2, _⟩ := dr.keys e he
    exact in_nine (by omega) (by omega)
  have cp : ∀ env a b, copyU ⟨env, [srcO a b c, .dic true (rowsU d.rows)]⟩ (.u (.ref 1)) = some (.od true (rowsU d.rows)) := fun env a b => copyU_rows rfl nn dr.nd
  have ls := dr.ls
  have lr := dr.lr
  have le := dr.le
  have hl := dr.letters
  have fin : ∀ (e : DD) (a b : Int), [tU e.sides, tU e.ranks, tU e.ends, .int e.letters, .ref 2] = [tU e.sides, tU e.ranks, tU e.ends, .int e.letters, U.ref 2] → e.ok → Q (.lst [tU e.sides, tU e.ranks, tU e.ends, .int e.letters, .ref 2]) [srcO a b c, .dic true (rowsU d.rows), .dic true (rowsU e.rows)] := fun e a b _ ok => h e a b ok
  simp only [List.replicate, List.map_cons, List.map_nil, List.length_cons, List.length_nil, Nat.reduceAdd, Nat.reduceSub, List.cons_append, List.nil_append, ↓wp_sSeq, ↓wp_sSet, ↓wp_eCall, ↓wp_aCons, ↓wp_aNil, ↓wp_eVar, ↓wp_eC, List.getElem?_cons_zero, true_and]
  refine draw h_draw (by omega) (by omega) fun v a1 b1 p0' p1' => ?_
  have vs : v = 0 ∨ v = 1 ∨ v = 2 ∨ v = 3 ∨ v = 4 ∨ v = 5 ∨ v = 6 := by omega
  rcases vs with rfl | rfl | rfl | rfl | rfl | rfl | rfl
  · simp [cop_eq_int]
    exact parts_wq (rest := [.dic true (rowsU d.rows)]) fun e st lt a2 b2 de g1 g2 g3 g4 g5 => h e a2 b2 (de.ok (by omega) (by omega) (by omega) (by omega))
  · simp [cop_eq_int, p0, p1, p2, p3, p4, cp, cellOf, line]
    refine turned_wq (by omega) (by omega) (by omega) fun ys a2 b2 g1 g2 => ?_
    simp [cop_eq_int, i0]
    refine fin { d with sides := ys } a2 b2 rfl (okd (lt := lt) { dr with ls := by show (ys.length : Int) = st; omega, sides := fun x hx => ?_ } l1 l3 (by show d.rows.length ≤ 21; omega))
    rcases g2 x hx with z | z
    · exact dr.sides x z
    · omega
  · simp [cop_eq_int, p0, p1, p2, p3, p4, cp, cellOf, line]
    refine turned_wq (by omega) (by omega) (by omega) fun ys a2 b2 g1 g2 => ?_
    simp [cop_eq_int, i1]
    refine fin { d with ranks := ys } a2 b2 rfl (okd (lt := lt) { dr with lr := by show (ys.length : Int) = st; omega, ranks := fun x hx => ?_ } l1 l3 (by show d.rows.length ≤ 21; omega))
    rcases g2 x hx with z | z
    · exact dr.ranks x z
    · omega
  · simp [cop_eq_int, p0, p1, p2, p3, p4, cp, cellOf, line]
    refine turned_wq (by omega) (by omega) (by omega) fun ys a2 b2 g1 g2 => ?_
    simp [cop_eq_int, i2]
    refine fin { d with ends := ys } a2 b2 rfl (okd (lt := lt) { dr with le := by show (ys.length : Int) = st; omega, ends := fun x hx => ?_ } l1 l3 (by show d.rows.length ≤ 21; omega))
    rcases g2 x hx with z | z
    · exact dr.ends x z
    · omega
  · by_cases z : d.letters < 3
    · simp [cop_eq_int, p0, p1, p2, p3, p4, cp, cellOf, line, z, i3]
      exact fin { d with letters := d.letters + 1 } a1 b1 rfl (okd (lt := lt + 1) (drawn_more dr) (by omega) (by omega) (by show d.rows.length ≤ 21; omega))
    · simp [cop_eq_int, p0, p1, p2, p3, p4, cp, cellOf, line, z]
      exact fin d a1 b1 rfl (okd dr l1 l3 (by omega))
  · simp [cop_eq_int, p0, p1, p2, p3, p4, cp, cellOf, line, lenU_tup]
    refine draw h_draw (by omega) (by omega) fun k1 a2 b2 g0 g1 => ?_
    refine draw h_draw (by omega) (by omega) fun k2 a3 b3 g2 g3 => ?_
    have kk : U.tup [.int k1, .int k2] = u (k1, k2) := rfl
    refine law_row_wq (lt := d.letters) h_draw h_choice h_row (by omega) (by omega) (by omega) fun r a4 b4 ok => ?_
    rw [hl, ls] at ok
    simp [cop_eq_int, t4, kk, ic (rs := d.rows) (k := (k1, k2)) (r := ⟨r⟩) (by omega)]
    exact fin { d with rows := putR d.rows (k1, k2) ⟨r⟩ } a4 b4 rfl (okd (lt := lt) (drawn_put dr (by omega) (by omega) ok) l1 l3 (by have := putR_len (rs := d.rows) (k := (k1, k2)) (r := ⟨r⟩); show (putR d.rows (k1, k2) ⟨r⟩).length ≤ 21; omega))
  · have kk : U.tup [.int 0, .int 0] = u ((0 : Int), (0 : Int)) := rfl
    have g : ∀ (env : List SV) (a b : Int), getDU ⟨env, [srcO a b c, .dic true (rowsU d.rows), .dic true (rowsU d.rows)]⟩ (.u (.ref 2)) (u ((0 : Int), (0 : Int))) (.tup []) = some (u (d.row (0, 0))) := fun env a b => getDU_rows rfl
    have g' : ∀ (env : List SV) (a b : Int), dicOf ⟨env, [srcO a b c, .dic true (rowsU d.rows), .dic true (rowsU d.rows)]⟩ (.u (.ref 2)) = some (true, rowsU d.rows) := fun env a b => rfl
    simp [cop_eq_int, p0, p1, p2, p3, p4, cp, cellOf, line, kk, t4, g, g', ic (rs := d.rows) (k := (0, 0)) (r := d.row (0, 0)) (by omega)]
    exact fin { d with rows := putR d.rows (0, 0) (d.row (0, 0)) } a1 b1 rfl (okd (lt := lt) (drawn_put dr (by simp; omega) (by simp; omega) (rowok_row dr _)) l1 l3 (by have := putR_len (rs := d.rows) (k := (0, 0)) (r := d.row (0, 0)); show (putR d.rows (0, 0) (d.row (0, 0))).length ≤ 21; omega))
end
end K02
set_option Elab.async false
set_option linter.all false
set_option maxRecDepth 100000
set_option maxHeartbeats 0
/-! K02L: the drawn parts. -/
namespace K02
open PySem (Str PyData)
open PySem.W (Datum DatumOrd Tup)
open EL
open Enc (u)
section
variable {n : Nat} {rest : List EO}
theorem like_all {d e : DD} (h : d.t4 = e.t4) : d.like e = (List.range d.sides.length).all fun i : Nat => (List.range d.letters.toNat).all fun j : Nat => decide (d.row ((i : Int), (j : Int)) = e.row ((i : Int), (j : Int))) := by
  unfold DD.like DD.ks prs
  rw [h]
  simp only [decide_true, Bool.true_and, List.all_flatMap, List.all_map]
  rfl
theorem same_wq {hp : List EO} {d e : DD} (okd : d.ok) (h1 : RowsAt hp 1 d.rows) (h2 : RowsAt hp 2 e.rows) {Q : U → List EO → Prop} {E : Str → Str → U → List EO → Prop} : wq (phiT tt (n + 1)) "_law_same" [pU d 1, pU e 2] hp Q E ↔ Q (.bl (d.like e)) hp := by
  refine wq_of_eq (eq_of_wq ?_)
  rw [wq_call h_same rfl]
  unfold m_law_same mkEnv
  obtain ⟨k1, k2, k3, k4⟩ := okd.small
  obtain ⟨l, hl⟩ := Int.eq_ofNat_of_zero_le (show 0 ≤ d.letters by omega)
  have cut : ∀ (s : S) (x : DD) (i : Nat), cutH s (.u (pU x i)) none (some 4) = some (.lst [tU x.sides, tU x.ranks, tU x.ends, .int x.letters]) := fun s x i => by rfl
  simp [List.replicate, cut]
  rw [show cop .ne (.lst [tU d.sides, tU d.ranks, tU d.ends, .int d.letters]) (.lst [tU e.sides, tU e.ranks, tU e.ends, .int e.letters]) = some (!decide (d.t4 = e.t4)) by
    show (eqU _ _).map (!·) = _
    rw [eqU_lst_tup, t4_u, t4_u, eqU_enc (by decide)]; rfl, oB_some]
  by_cases h : d.t4 = e.t4
  · have g3 : ∀ (s : S) (x : DD) (i : Nat), getU s (.u (pU x i)) (.int 3) = some (.int x.letters) := fun s x i => rfl
    have g4 : ∀ (s : S) (x : DD) (i : Nat), getU s (.u (pU x i)) (.int 4) = some (.ref i) := fun s x i => rfl
    have g0 : ∀ (s : S) (x : DD) (i : Nat), getU s (.u (pU x i)) (.int 0) = some (tU x.sides) := fun s x i => rfl
    have hl2 : e.letters = l := by rw [← hl]; exact (congrArg (fun z => z.d) h).symm
    have d1 : ∀ env, dicOf ⟨env, hp⟩ (.u (.ref 1)) = some (true, rowsU d.rows) := fun env => by
      unfold dicOf
      rcases h1 with z | z <;> simp only [z]
    have d2 : ∀ env, dicOf ⟨env, hp⟩ (.u (.ref 2)) = some (true, rowsU e.rows) := fun env => by
      unfold dicOf
      rcases h2 with z | z <;> simp only [z]
    simp [h, g0, lenU_tup]
    rw [rng1_of (by omega) (by omega), Int.toNat_natCast, oB_some]
    refine for_allM (fun j : Nat => U.int (0 + (j : Int))) (fun i : Nat => (List.range d.letters.toNat).all fun j : Nat => decide (d.row ((i : Int), (j : Int)) = e.row ((i : Int), (j : Int)))) (fun s => ∃ x y, s = ⟨[.val (pU d 1), .val (pU e 2), x, y], hp⟩) (fun s => s.hp = hp) _ _ ⟨_, _, rfl⟩ ?_ ?_ ?_
    · rintro i _ s ⟨x, y, rfl⟩
      simp [g3, hl]
      rw [rng1_of (by omega) (by omega), Int.toNat_natCast, oB_some]
      refine for_allM (fun j : Nat => U.int (0 + (j : Int))) (fun j : Nat => decide (d.row ((i : Int), (j : Int)) = e.row ((i : Int), (j : Int)))) (fun s => ∃ y, s = ⟨[.val (pU d 1), .val (pU e 2), .val (.int (i : Int)), y], hp⟩) (fun s => s.hp = hp) _ _ ⟨_, rfl⟩ ?_ ?_ ?_
      · rintro j _ s ⟨y, rfl⟩
        have kk : U.tup [.int (i : Int), .int (j : Int)] = u ((i : Int), (j : Int)) := rfl
        simp [g4, kk, d1, d2, getDU_rows (d1 _), getDU_rows (d2 _), line]
        rw [cop_ne_enc (α := Rw) (by decide), oB_some]
        by_cases q : d.row ((i : Int), (j : Int)) = e.row ((i : Int), (j : Int)) <;> simp [q]
      · rintro z s ⟨y, rfl⟩
        simp at z
        simp
        exact z
      · intro z s hs
        simp at z
        obtain ⟨j, z1, z2⟩ := z
        simp [hs]
        exact ⟨j, z1, z2⟩
    · rintro z s ⟨x, y, rfl⟩
      simp [like_all h, z]
    · intro z s hs
      rw [like_all h, z]
      exact ⟨rfl, hs⟩
  · simp [h, DD.like]
theorem cut1 (s : S) (st : List Int) : cutH s (.u (tU st)) (some 1) none = some (tU (st.drop 1)) := by
    show some (U.tup (cutU (st.map U.int) (some ((1 : Nat) : Int)) none)) = _
    unfold cutU
    rw [HT.sIx_nat, HT.sIx_none]
    have : List.take ((st.map U.int).length - min 1 (st.map U.int).length) (List.drop (min 1 (st.map U.int).length) (st.map U.int)) = (st.drop 1).map U.int := by
      cases st with
      | nil => rfl
      | cons x xs => simp; exact List.take_of_length_le (by simp)
    rw [this]
theorem after_wq {w st : List Int} {q : Int} {hp : List EO} (hw : w.length ≤ 1000) (hs : st.length ≤ 1000) {Q : U → List EO → Prop} {E : Str → Str → U → List EO → Prop} : wq (phiT tt (n + 1)) "after" [tU st, .tup [.int q, tU w]] hp Q E ↔ Q (.tup [.int q, tU (w ++ st.drop 1)]) hp := by
  refine wq_of_eq (eq_of_wq ?_)
  rw [wq_call h_after rfl]
  unfold PM.m_after mkEnv
  have cut : ∀ s : S, cutH s (.u (tU st)) (some 1) none = some (tU (st.drop 1)) := fun s => cut1 s st
  have add : bop .add (tU w) (tU (st.drop 1)) = some (tU (w ++ st.drop 1)) := by
    show (if (w.map U.int).length + ((st.drop 1).map U.int).length ≤ line then _ else _) = _
    rw [if_pos (by simp; unfold line; omega), ← List.map_append]
  rw [List.drop_one] at add
  simp [List.replicate, getU_tup, cut, add, line]
theorem law_run {ns : List Int} (hl : ns.length ≤ 63) : wq (phiT tt (n + 10)) "law" [.scr ns] [] (fun u _ => u = .bl true) noE := by
  rw [wq_call h_law rfl]
  unfold m_law mkEnv
  simp only [List.replicate, List.map_cons, List.map_nil, List.length_cons, List.length_nil, Nat.reduceAdd, Nat.reduceSub, List.cons_append, List.nil_append, ↓wp_sSeq, ↓wp_sSet, ↓wp_eCall, ↓wp_aCons, ↓wp_aNil, ↓wp_eVar, ↓wp_eC, List.getElem?_cons_zero, true_and]
  refine source h_source (by omega) fun a0 b0 c => ?_
  simp only [List.set_cons_succ, List.set_cons_zero, List.getElem?_cons_succ, List.getElem?_cons_zero, List.length_cons, List.length_nil, Nat.reduceAdd, Nat.reduceLT, true_and]
  refine parts_wq (rest := []) fun d st lt a1 b1 de s1 s3 l1 l3 few => ?_
  have okd : d.ok := de.ok (by omega) (by omega) (by omega) (by omega)
  simp only [List.set_cons_succ, List.set_cons_zero, List.getElem?_cons_succ, List.getElem?_cons_zero, List.length_cons, List.length_nil, Nat.reduceAdd, Nat.reduceLT, true_and, List.nil_append]
  refine other_wq de s1 s3 l1 l3 few fun e a2 b2 oke => ?_
  have nn : ∀ e ∈ d.rows, e.1 ∈ nine := fun e he => by
    obtain ⟨q1, q2, _⟩ := de.keys e he
    exact in_nine (by omega) (by omega)
  have cp : ∀ env hp, copyU ⟨env, srcO a2 b2 c :: .dic true (rowsU d.rows) :: hp⟩ (.u (.ref 1)) = some (.od true (rowsU d.rows)) := fun env hp => copyU_rows rfl nn de.nd
  simp only [↓wp_eFz, ↓wp_oDCopy, ↓wp_hdl, ↓wp_eGet, ↓wp_mSlot, List.set_cons_succ, List.set_cons_zero, List.getElem?_cons_succ, List.getElem?_cons_zero, List.length_cons, List.length_nil, Nat.reduceAdd, Nat.reduceLT, true_and, ↓wp_eC, p0, p1, p2, p3, p4, oB_some, cp, frzU_od, ↓wp_eMakeT, ↓wp_aCons, ↓wp_aNil]
  refine makeC_wq (hp := [srcO a2 b2 c, .dic true (rowsU d.rows), .dic true (rowsU e.rows)]) hT okd (i := 1) rfl (.inl rfl) ?_
  simp only [List.set_cons_succ, List.set_cons_zero, List.getElem?_cons_succ, List.getElem?_cons_zero, List.length_cons, List.length_nil, Nat.reduceAdd, Nat.reduceLT, true_and]
  have q1 : ∀ env hp, eqH ⟨env, srcO a2 b2 c :: .fdic true (rowsU d.rows) :: hp⟩ (.u (.ref 1)) (.u (.dic true (rowsU d.rows))) = some true := fun env hp => by
    show (if (rowsU d.rows).length = (rowsU d.rows).length then hitsU (rowsU d.rows) (rowsU d.rows) else some false) = _
    rw [if_pos rfl, hits_self okd.nd fun e he => he]
  simp only [↓wp_sIf, ↓wp_tV, ↓wp_eEqH, ↓wp_hdl, ↓wp_eGet, ↓wp_mSlot, List.getElem?_cons_succ, List.getElem?_cons_zero, ↓wp_eC, p0, p1, p2, p3, p4, oB_some, q1, if_true, Bool.not_true, Bool.false_eq_true, if_false, ↓wp_sNext, ↓wp_eMakeT, ↓wp_aCons, ↓wp_aNil, List.length_cons, List.length_nil, Nat.reduceAdd, true_and]
  refine makeC_wq (hp := [srcO a2 b2 c, .fdic true (rowsU d.rows), .dic true (rowsU e.rows)]) hT oke (i := 2) rfl (.inl rfl) ?_
  have q2 : ∀ s x y, eqH s (.u (.bl x)) (.u (.bl y)) = some (decide (x = y)) := fun s x y => by
    rw [eqH_u rfl rfl]; exact eqU_enc (α := Bool) (by decide) x y
  have ll : d.like d = true := by simp [DD.like]
  have same : ∀ {Q : U → List EO → Prop} {E : Str → Str → U → List EO → Prop}, wq (phiT tt (n + 9)) "_law_same" [pU d 1, pU e 2] [srcO a2 b2 c, .fdic true (rowsU d.rows), .fdic true (rowsU e.rows)] Q E ↔ Q (.bl (d.like e)) [srcO a2 b2 c, .fdic true (rowsU d.rows), .fdic true (rowsU e.rows)] := same_wq okd (.inr rfl) (.inr rfl)
  have al : ∀ {x y : DD} {Q : U → List EO → Prop} {E : Str → Str → U → List EO → Prop} {hp : List EO}, x.ok → y.ok → (wq (phiT tt (n + 9)) "alike" [x.u, y.u] hp Q E ↔ Q (.bl (x.like y)) hp) := fun h1 h2 => alike_wq (n := n + 6) hT h_alike h1 h2
  simp only [List.set_cons_succ, List.set_cons_zero, List.getElem?_cons_succ, List.getElem?_cons_zero, List.length_cons, List.length_nil, Nat.reduceAdd, Nat.reduceLT, true_and, ↓wp_sIf, ↓wp_tOr, ↓wp_tV, ↓wp_eEqH, ↓wp_hdl, ↓wp_eCall, ↓wp_aCons, ↓wp_aNil, ↓wp_eVar, ↓wp_tNot, ↓wp_tTru, same, al okd oke, al okd okd, q2, oB_some, decide_true, if_true, Bool.not_true, Bool.false_eq_true, if_false, ll, truU_bl, ↓wp_sNext]
  simp only [↓wp_eTupleOf, ↓wp_hdl, ↓wp_eFz]
  refine drawn_list (m := 3) (v := 8) (rest := [.fdic true (rowsU d.rows), .fdic true (rowsU e.rows)]) h_draw (by omega) (fun k => 1 ≤ k ∧ k ≤ 6) ?_ (by omega) ?_ ?_ fun xs a3 b3 hs1 hs2 => ?_
  · rfl
  · rfl
  · simp only [↓wp_iRange, ↓wp_aCons, ↓wp_aNil, ↓wp_eBop, ↓wp_eC, ↓wp_eCall, ↓wp_eVar, List.getElem?_cons_succ, List.getElem?_cons_zero, List.length_cons, List.length_nil, Nat.reduceAdd, true_and]
    refine draw h_draw (by omega) (by omega) fun v a b v0 v1 => ?_
    obtain ⟨k, rfl⟩ := Int.eq_ofNat_of_zero_le v0
    rw [bop_add, oB_some, show (1 : Int) + (k : Int) = ((1 + k : Nat) : Int) by omega, rng1_of (by omega) (by omega), Int.toNat_natCast, oB_some]
    exact ⟨1 + k, a, b, rfl, by omega, by omega, rfl⟩
  · simp only [frzU_ol, oB_some, tupleU, seqOf, List.set_cons_succ, List.set_cons_zero, List.getElem?_cons_succ, List.getElem?_cons_zero, List.length_cons, List.length_nil, Nat.reduceAdd, Nat.reduceLT, true_and, ↓wp_eTup, ↓wp_aCons, ↓wp_aNil, ↓wp_eCall, ↓wp_eVar, ↓wp_eC]
    refine draw h_draw (by omega) (by omega) fun q a4 b4 q0 q1 => ?_
    simp only [↓wp_eTupleOf, ↓wp_hdl, ↓wp_eFz]
    refine drawn_list (m := 3) (v := 8) (rest := [.fdic true (rowsU d.rows), .fdic true (rowsU e.rows)]) h_draw (by omega) (fun k => k ≤ 6) ?_ (by omega) ?_ ?_ fun w a5 b5 hw1 hw2 => ?_
    · rfl
    · rfl
    · simp only [↓wp_iRange, ↓wp_aCons, ↓wp_aNil, ↓wp_eC, ↓wp_eCall, ↓wp_eVar, List.getElem?_cons_succ, List.getElem?_cons_zero, List.length_cons, List.length_nil, Nat.reduceAdd, true_and]
      refine draw h_draw (by omega) (by omega) fun v a b v0 v1 => ?_
      obtain ⟨k, rfl⟩ := Int.eq_ofNat_of_zero_le v0
      rw [rng1_of (by omega) (by omega), Int.toNat_natCast, oB_some]
      exact ⟨k, a, b, rfl, by omega, by omega, rfl⟩
    · have af : ∀ {Q : U → List EO → Prop} {E : Str → Str → U → List EO → Prop} {hp : List EO}, (wq (phiT tt (n + 9)) "after" [tU xs, .tup [.int q, tU w]] hp Q E ↔ Q (.tup [.int q, tU (w ++ xs.drop 1)]) hp) := after_wq (by omega) (by omega)
      have g1 : ∀ s x y, getU s (.u (.tup [x, y])) (.int 0) = some x := fun s x y => rfl
      have g2 : ∀ s x y, getU s (.u (.tup [x, y])) (.int 1) = some y := fun s x y => rfl
      have e1 : ∀ s x, eqH s (.u (.int x)) (.u (.int x)) = some true := fun s x => by
        rw [eqH_u rfl rfl]
        show eqU (u x) (u x) = _
        rw [eqU_enc (by decide)]; simp
      have e2 : ∀ s (x : List Int), eqH s (.u (.lst (x.map U.int))) (.u (.lst (x.map U.int))) = some true := fun s x => by
        rw [eqH_u rfl rfl]
        show eqU (u x) (u x) = _
        rw [eqU_enc (by decide)]; simp
      have l1 : ∀ s (x : List Int), listU s (.u (tU x)) = some (.lst (x.map U.int)) := fun s x => rfl
      have cut : ∀ s : S, cutH s (.u (tU xs)) (some 1) none = some (tU (xs.drop 1)) := fun s => cut1 s xs
      have add : bop .add (.lst (w.map U.int)) (.lst ((xs.drop 1).map U.int)) = some (.lst ((w ++ xs.drop 1).map U.int)) := by
        show (if (w.map U.int).length + ((xs.drop 1).map U.int).length ≤ line then _ else _) = _
        rw [if_pos (by simp; unfold line; omega), ← List.map_append]
      have line2 : 2 ≤ line := by decide
      simp only [line2, frzU_ol, oB_some, tupleU, seqOf, List.set_cons_succ, List.set_cons_zero, List.getElem?_cons_succ, List.getElem?_cons_zero, List.length_cons, List.length_nil, Nat.reduceAdd, Nat.reduceLT, true_and, ↓wp_sAsgT, ↓wp_eCall, ↓wp_aCons, ↓wp_aNil, ↓wp_eVar, af, ↓wp_tgTup, ↓wp_tgsCons, ↓wp_tgsNil, ↓wp_tgName, ↓wp_sRet, ↓wp_eAnd, ↓wp_eEqH, ↓wp_mSlot, ↓wp_hdl, ↓wp_eGet, ↓wp_eC, g1, g2, e1, if_true, ↓wp_eListOf, l1, ↓wp_eBop, ↓wp_eSl, ↓wp_pSome, ↓wp_pNone, cut, add, e2, ↓wp_eIsi, typU, Option.bind_some, isi_tt, Bool.false_eq_true, if_false]
end
end K02
set_option Elab.async false
set_option linter.all false
set_option maxRecDepth 100000
set_option maxHeartbeats 0
namespace K02
open PySem PySem.Spec PyProof.Rows L2 EL
theorem run_all {ns : List Int} (hl : ns.length ≤ 63) : ∃ hp, phi tb 10 "law" [.scr ns] [] = some (.ok (.bl true) hp) := by
  rw [phi_eq]
  have h := law_run (n := 0) hl
  rw [wq_def] at h
  unfold wq0 at h
  cases e : phiT tt 10 "law" [.scr ns] [] with
  | none => rw [e] at h; exact h.elim
  | some r => rw [e] at h; cases r with
    | ok x s' => exact ⟨s', by rw [show x = .bl true from h]⟩
    | ex c f v s' => exact h.elim
end K02
open PySem PySem.W PySem.Calls PyProof.Rows
theorem PySem.Challenge.cw_towerduel_k02_alike_and_after_holds : PySem.Challenge.rw_towerduel_k02_alike_and_after.Holds := by
  w_on; o_law
  refine HandSHeadRun.head_any (r := OpenLaw.row PySem.Challenge.rw_towerduel_k02_alike_and_after) (q := K02.vw) (H := K02.hk) (ob := K02.ob) (M := 6000) (loose := K02.loose) (d := HandSHeadRun.topDef (OpenLaw.row PySem.Challenge.rw_towerduel_k02_alike_and_after).prog 25) (kwd := []) K02.ob_eq
    (by kernel_rfl) (fun s => by kernel_rfl) K02.run (by kernel_rfl) (by kernel_rfl) (by kernel_rfl) (by rfl) (by first | assumption | decide +kernel) (by decide +kernel) ⟨rfl, rfl, rfl, rfl, rfl, by decide +kernel⟩ ?hw ?hc
  case hw => w_witness2
  case hc =>
    exact EL.walk_X (l := PySem.Challenge.rw_towerduel_k02_alike_and_after) (n := 63) (k := 9) (e := K02.e_law) rfl (by decide) (by kernel_rfl) ⟨rfl, by decide, by decide⟩ (by kernel_rfl) K02.txt (by simp [K02.tb]) rfl rfl (by simp [K02.fa]) rfl fun ns hl => K02.run_all hl
