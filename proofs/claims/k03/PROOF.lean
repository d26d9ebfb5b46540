import PyProof.Rows.All
import Wide.All
import OpenK.AllK
import Wide.FinOn
import HandS.ForMost
import HandS.Exc
import KE.SortData
import HandS.TupAny
import HandS.Deep
import HandS.TupLen
import HandS.CallSlots
import HandS.Walk
import HandS.WordsExc
import HandS.Defaults
import HandS.Head0
import HandS.Head1
import HandS.Head2
import HandS.HeadEnd
import HandS.HeadHook1
import HandS.HeadHook2
import KE.DatumOrd
import HandS.WideBits
import PySem.Challenge.RW_towerduel_k03_claims_lowered
set_option Elab.async false
set_option linter.all false
set_option maxRecDepth 100000
/-! EA: the values, states and programs of E. -/
namespace EL
open PySem (Str PyData)

/-- a value of E: data are plain; a mutable thing is told by its cell -/
inductive U where
  | non | bl (b : Bool) | int (i : Int) | str (x : Str)
  | tup (xs : List U) | lst (xs : List U)
  | dic (t : Bool) (kvs : List (U × U))
  | obj (c : Str) (fs : List (Str × U))
  | ref (i : Nat)
  | scr (ns : List Int)

/-- a slot of a body: no value, a value, a list or dict of its own -/
inductive SV where
  | no | val (u : U) | ol (xs : List U) | od (t : Bool) (kvs : List (U × U))
/-- a cell -/
inductive EO where
  | lst (xs : List U) | dic (t : Bool) (kvs : List (U × U)) | ins (c : Str) (fs : List (Str × U))

structure S where
  env : List SV
  hp : List EO

inductive R (α : Type) where
  | ok (a : α) (s : S)
  | ex (c : Str) (f : Str) (v : U) (s : S)
inductive FR where
  | ok (u : U) (hp : List EO)
  | ex (c : Str) (f : Str) (v : U) (hp : List EO)
abbrev Phi := Str → List U → List EO → Option FR
abbrev M (α : Type) := Phi → S → Option (R α)

def bnd {α β : Type} (m : M α) (f : α → M β) : M β := fun Φ s => match m Φ s with
  | none => none
  | some (.ok a s') => f a Φ s'
  | some (.ex c g v s') => some (.ex c g v s')
def ret {α : Type} (a : α) : M α := fun _ s => some (.ok a s)
def fail {α : Type} : M α := fun _ _ => none
def ofO {α : Type} (o : Option α) : M α := fun _ s => match o with
  | none => none
  | some a => some (.ok a s)

/-! ### data -/
mutual
def toD : U → Option PyData
  | .non => some .none
  | .bl b => some (.bool b)
  | .int i => some (.int i)
  | .str x => some (.str x)
  | .tup xs => (toDs xs).map .tuple
  | .lst xs => (toDs xs).map .list
  | .dic _ _ => none
  | .obj _ _ => none
  | .ref _ => none
  | .scr _ => none
def toDs : List U → Option (List PyData)
  | [] => some []
  | x :: xs => match toD x, toDs xs with
    | some d, some ds => some (d :: ds)
    | _, _ => none
end
def toS (u : U) : Option PyData := match toD u with
  | some d => if PySem.SeqAt.shaped d = true then some d else none
  | none => none
/-- a == b -/
def eqU (a b : U) : Option Bool := match toS a, toS b with
  | some d, some e => some (PyData.eqv d e)
  | _, _ => none

/-! ### operations on values -/
inductive BOp where
  | add | sub | mul | fdiv | mod | shl | band | bor
def line : Nat := 16777216
def bAdd : U → U → Option U
  | .int i, .int j => some (.int (i + j))
  | .lst xs, .lst ys => if xs.length + ys.length ≤ line then some (.lst (xs ++ ys)) else none
  | .tup xs, .tup ys => if xs.length + ys.length ≤ line then some (.tup (xs ++ ys)) else none
  | .str x, .str y => if x.length + y.length ≤ line then some (.str (x ++ y)) else none
  | _, _ => none
def bInt (c : Int → Int → Bool) (g : Int → Int → Int) : U → U → Option U
  | .int i, .int j => if c i j = true then some (.int (g i j)) else none
  | _, _ => none
def bop : BOp → U → U → Option U
  | .add => bAdd
  | .sub => bInt (fun _ _ => true) fun i j => i - j
  | .mul => bInt (fun i j => decide (-(2 ^ 64) < i ∧ i < 2 ^ 64 ∨ -(2 ^ 64) < j ∧ j < 2 ^ 64)) fun i j => i * j
  | .fdiv => bInt (fun _ j => decide (j ≠ 0 ∧ j.natAbs < 1073741824)) fun i j => i.fdiv j
  | .mod => bInt (fun _ j => decide (j ≠ 0)) fun i j => i.fmod j
  | .shl => bInt (fun i j => decide (0 ≤ j ∧ j ≤ 1000000 ∧ i.natAbs < 2 ^ 64)) fun i j => i * 2 ^ j.toNat
  | .band => bInt (fun _ _ => true) PySem.Builtin.bitAnd
  | .bor => bInt (fun _ _ => true) PySem.Builtin.bitOr
end EL
namespace EL
open PySem (Str PyData)
def notNone : PyData → Bool
  | .none => false
  | _ => true
/-- a < b, of alike data -/
def ltD (a b : U) : Option Bool := match toS a, toS b with
  | some d, some e => if (PySem.W.alike d e && notNone d) = true then some (PySem.W.dataLt d e) else none
  | _, _ => none
def ltU : U → U → Option Bool
  | .int i, .int j => some (decide (i < j))
  | a, b => ltD a b
inductive COp where
  | eq | ne | lt | le | gt | ge | isN | notN
def isNon : U → Bool
  | .non => true
  | _ => false
def cInt (g : Int → Int → Bool) : U → U → Option Bool
  | .int i, .int j => some (g i j)
  | _, _ => none
def cNon (neg : Bool) : U → U → Option Bool
  | a, .non => some (if neg = true then !isNon a else isNon a)
  | _, _ => none
def cop : COp → U → U → Option Bool
  | .eq => eqU
  | .ne => fun a b => (eqU a b).map (!·)
  | .lt => ltU
  | .le => cInt fun i j => decide (i ≤ j)
  | .gt => cInt fun i j => decide (j < i)
  | .ge => cInt fun i j => decide (j ≤ i)
  | .isN => cNon false
  | .notN => cNon true
/-- x in us -/
def inU (x : U) (us : List U) : Option Bool := match toS x, toS (.lst us) with
  | some d, some (.list ds) => some (ds.any fun z => PyData.eqv z d)
  | _, _ => none
end EL
namespace EL
open PySem (Str PyData)
/-! ### keys -/
def toK : U → Option L2.Key
  | .int i => some (.inl i)
  | .str x => some (.inr x)
  | _ => none
def toKs : List U → Option (List L2.Key)
  | [] => some []
  | x :: xs => match toK x, toKs xs with
    | some k, some ks => some (k :: ks)
    | _, _ => none
def toKT : U → Option (List L2.Key)
  | .tup us => toKs us
  | _ => none
/-- what a dict holds for a key: none where the key is out of form -/
def look (t : Bool) (kvs : List (U × U)) (k : U) : Option (Option U) :=
  if t = true then (toKT k).map fun kk => (kvs.find? fun e => decide (toKT e.1 = some kk)).map (·.2)
  else (toK k).map fun kk => (kvs.find? fun e => decide (toK e.1 = some kk)).map (·.2)
/-- a dict with one more entry, or an old one's value set -/
def putU (kvs : List (U × U)) (p : U → Bool) (k v : U) : List (U × U) :=
  if kvs.any (fun e => p e.1) = true then kvs.map fun e => if p e.1 = true then (e.1, v) else e else kvs ++ [(k, v)]
def put (t : Bool) (kvs : List (U × U)) (k v : U) : Option (List (U × U)) :=
  if kvs.length < line then
    (if t = true then (toKT k).map fun kk => putU kvs (fun e => decide (toKT e = some kk)) k v
    else (toK k).map fun kk => putU kvs (fun e => decide (toK e = some kk)) k v)
  else none

/-! ### handles: what is only looked at -/
inductive Hd where
  | sl (i : Nat) | u (u : U)
def seqOf (s : S) : Hd → Option (Bool × List U)
  | .u (.lst us) => some (false, us)
  | .u (.tup us) => some (true, us)
  | .u (.scr ns) => some (false, ns.map U.int)
  | .u (.ref i) => match s.hp[i]? with
    | some (.lst us) => some (false, us)
    | _ => none
  | .sl i => match s.env[i]? with
    | some (.ol us) => some (false, us)
    | _ => none
  | _ => none
def dicOf (s : S) : Hd → Option (Bool × List (U × U))
  | .u (.dic t kvs) => some (t, kvs)
  | .u (.ref i) => match s.hp[i]? with
    | some (.dic t kvs) => some (t, kvs)
    | _ => none
  | .sl i => match s.env[i]? with
    | some (.od t kvs) => some (t, kvs)
    | _ => none
  | _ => none
def mSlot (i : Nat) : M Hd := fun _ s => match s.env[i]? with
  | some (.val u) => some (.ok (.u u) s)
  | some (.ol _) => some (.ok (.sl i) s)
  | some (.od _ _) => some (.ok (.sl i) s)
  | _ => none
def hdl (m : M U) : M Hd := bnd m fun u => ret (.u u)
/-- by what stands in a state -/
def look' {α : Type} (g : S → Option α) : M α := fun _ s => match g s with
  | none => none
  | some x => some (.ok x s)
def getU (s : S) (h : Hd) (i : U) : Option U := match seqOf s h with
  | some (_, us) => (match i with
    | .int k => L2.atI us k
    | _ => none)
  | none => (match dicOf s h with
    | some (t, kvs) => (match look t kvs i with
      | some (some v) => some v
      | _ => none)
    | none => none)
/-- x in h -/
def memU (s : S) (x : U) (h : Hd) : Option Bool := match seqOf s h with
  | some (_, us) => inU x us
  | none => (match dicOf s h with
    | some (t, kvs) => (look t kvs x).map Option.isSome
    | none => none)
def lenU (s : S) (h : Hd) : Option U := match seqOf s h with
  | some (_, us) => some (.int us.length)
  | none => (match dicOf s h with
    | some (_, kvs) => some (.int kvs.length)
    | none => none)
end EL
namespace EL
open PySem (Str PyData)
/-! ### names -/
def setE (s : S) (i : Nat) (v : SV) : S := ⟨s.env.set i v, s.hp⟩
/-- a name's value; a list or dict of the slot's own is frozen by it -/
def eVar (i : Nat) : M U := fun _ s => match s.env[i]? with
  | some (.val u) => some (.ok u s)
  | some (.ol us) => some (.ok (.lst us) (setE s i (.val (.lst us))))
  | some (.od t kvs) => some (.ok (.dic t kvs) (setE s i (.val (.dic t kvs))))
  | _ => none
end EL
set_option Elab.async false
set_option linter.all false
set_option maxRecDepth 100000
/-! EB: how E's states lie in the abstract heap of HandS. -/
namespace EL
open PySem L2

/-- the frozen addresses, the cells' addresses -/
structure W where
  F : Addr → Prop
  ρ : List Addr

/-- a key's value in E -/
def kU : L2.Key → U
  | .inl i => .int i
  | .inr x => .str x

section
variable (K : PySem.W.Frag) (cls : Str → Addr) (w : W) (H : Hp)
mutual
inductive RU : U → V → Prop
  | non : RU .non .non
  | bl (b : Bool) : RU (.bl b) (.bl b)
  | int (i : Int) : RU (.int i) (.int i)
  | str (x : Str) : RU (.str x) (.str x)
  | tup {p : Addr} {us : List U} {vs : List V} : w.F p → H p = some (.tup vs) → RUs us vs → RU (.tup us) (.ref p)
  | lst {p : Addr} {us : List U} {vs : List V} : w.F p → H p = some (.lst vs) → RUs us vs → RU (.lst us) (.ref p)
  | dicK {p : Addr} {us : List (U × U)} {o : Obj} {ks : List (L2.Key × V)} : w.F p → H p = some (.frz o (.dK ks)) → RKs us ks → RU (.dic false us) (.ref p)
  | dicT {p : Addr} {us : List (U × U)} {o : Obj} {ks : List (List L2.Key × V)} : w.F p → H p = some (.frz o (.dT ks)) → RTs us ks → RU (.dic true us) (.ref p)
  | obj {p dx : Addr} {c : Str} {fs : List (Str × U)} {gs : List (Str × V)} : w.F p → H p = some (.ins (cls c) dx gs) → RFs fs gs → RU (.obj c fs) (.ref p)
  | ref {p : Addr} {i : Nat} : w.ρ[i]? = some p → RU (.ref i) (.ref p)
  | scr {p : Addr} {ns : List Int} : w.F p → Rd H p (.lst (ns.map V.int)) → RU (.scr ns) (.ref p)
  | scrK {p : Addr} {ns : List Int} : (∀ H' : Hp, SqL K H' p (ns.map V.int)) → RU (.scr ns) (.ref p)
inductive RUs : List U → List V → Prop
  | nil : RUs [] []
  | cons {u : U} {v : V} {us : List U} {vs : List V} : RU u v → RUs us vs → RUs (u :: us) (v :: vs)
inductive RKs : List (U × U) → List (L2.Key × V) → Prop
  | nil : RKs [] []
  | cons {k : L2.Key} {u : U} {v : V} {us : List (U × U)} {vs : List (L2.Key × V)} : RU u v → RKs us vs → RKs ((kU k, u) :: us) ((k, v) :: vs)
inductive RTs : List (U × U) → List (List L2.Key × V) → Prop
  | nil : RTs [] []
  | cons {k : List L2.Key} {u : U} {v : V} {us : List (U × U)} {vs : List (List L2.Key × V)} : RU u v → RTs us vs → RTs ((.tup (k.map kU), u) :: us) ((k, v) :: vs)
inductive RFs : List (Str × U) → List (Str × V) → Prop
  | nil : RFs [] []
  | cons {f : Str} {u : U} {v : V} {us : List (Str × U)} {vs : List (Str × V)} : RU u v → RFs us vs → RFs ((f, u) :: us) ((f, v) :: vs)
end

/-- what a cell, or a list or dict of a slot, holds at p -/
inductive OC : EO → Addr → Prop
  | lst {us : List U} {vs : List V} {p : Addr} : H p = some (.lst vs) → RUs K cls w H us vs → OC (.lst us) p
  | dicK {us : List (U × U)} {ks : List (L2.Key × V)} {p : Addr} : H p = some (.dK ks) → RKs K cls w H us ks → OC (.dic false us) p
  | dicT {us : List (U × U)} {ks : List (List L2.Key × V)} {p : Addr} : H p = some (.dT ks) → RTs K cls w H us ks → OC (.dic true us) p
  | ins {c : Str} {fs : List (Str × U)} {gs : List (Str × V)} {p dx : Addr} : H p = some (.ins (cls c) dx gs) → RFs K cls w H fs gs → OC (.ins c fs) p
end

/-- from (w, H) on: what is frozen stays, cells keep their places -/
structure Stp (w : W) (H : Hp) (w' : W) (H' : Hp) : Prop where
  F : ∀ a, w.F a → w'.F a
  ρ : ∀ (i : Nat) (p : Addr), w.ρ[i]? = some p → w'.ρ[i]? = some p
  H : ∀ a, w.F a → H' a = H a
theorem Stp.refl {w : W} {H : Hp} : Stp w H w H := ⟨fun _ h => h, fun _ _ h => h, fun _ _ => rfl⟩
theorem Stp.trans {w w' w'' : W} {H H' H'' : Hp} (a : Stp w H w' H') (b : Stp w' H' w'' H'') : Stp w H w'' H'' :=
  ⟨fun x h => b.F x (a.F x h), fun i p h => b.ρ i p (a.ρ i p h), fun x h => (b.H x (a.F x h)).trans (a.H x h)⟩

section
variable {K : PySem.W.Frag} {cls : Str → Addr} {w w' : W} {H H' : Hp}
theorem rd_step {a : Addr} {o : HO} (e : H' a = H a) (h : Rd H a o) : Rd H' a o := by
  rcases h with h | ⟨o, h⟩
  · exact .inl (e.trans h)
  · exact .inr ⟨o, e.trans h⟩
theorem RU.script {p : Addr} {ns : List Int} (h : RU K cls w H (.scr ns) (.ref p)) : SqL K H p (ns.map V.int) := by
  cases h with
  | scr _ h => exact .inl h
  | scrK h => exact h H
mutual
theorem RU.mono (s : Stp w H w' H') : ∀ {u : U} {v : V}, RU K cls w H u v → RU K cls w' H' u v
  | _, _, .non => .non
  | _, _, .bl b => .bl b
  | _, _, .int i => .int i
  | _, _, .str x => .str x
  | _, _, .tup f h r => .tup (s.F _ f) ((s.H _ f).trans h) (RUs.mono s r)
  | _, _, .lst f h r => .lst (s.F _ f) ((s.H _ f).trans h) (RUs.mono s r)
  | _, _, .dicK f h r => .dicK (s.F _ f) ((s.H _ f).trans h) (RKs.mono s r)
  | _, _, .dicT f h r => .dicT (s.F _ f) ((s.H _ f).trans h) (RTs.mono s r)
  | _, _, .obj f h r => .obj (s.F _ f) ((s.H _ f).trans h) (RFs.mono s r)
  | _, _, .ref h => .ref (s.ρ _ _ h)
  | _, _, .scr f h => .scr (s.F _ f) (rd_step (s.H _ f) h)
  | _, _, .scrK h => .scrK h
theorem RUs.mono (s : Stp w H w' H') : ∀ {u : List U} {v : List V}, RUs K cls w H u v → RUs K cls w' H' u v
  | _, _, .nil => .nil
  | _, _, .cons a b => .cons (RU.mono s a) (RUs.mono s b)
theorem RKs.mono (s : Stp w H w' H') : ∀ {u : List (U × U)} {v : List (L2.Key × V)}, RKs K cls w H u v → RKs K cls w' H' u v
  | _, _, .nil => .nil
  | _, _, .cons a b => .cons (RU.mono s a) (RKs.mono s b)
theorem RTs.mono (s : Stp w H w' H') : ∀ {u : List (U × U)} {v : List (List L2.Key × V)}, RTs K cls w H u v → RTs K cls w' H' u v
  | _, _, .nil => .nil
  | _, _, .cons a b => .cons (RU.mono s a) (RTs.mono s b)
theorem RFs.mono (s : Stp w H w' H') : ∀ {u : List (Str × U)} {v : List (Str × V)}, RFs K cls w H u v → RFs K cls w' H' u v
  | _, _, .nil => .nil
  | _, _, .cons a b => .cons (RU.mono s a) (RFs.mono s b)
end
end
section
variable {K : PySem.W.Frag} {cls : Str → Addr} {w w' : W} {H H' : Hp}
theorem OC.there {o : EO} {p : Addr} (h : OC K cls w H o p) : H p ≠ none := by
  cases h with
  | lst h r => rw [h]; exact fun z => nomatch z
  | dicK h r => rw [h]; exact fun z => nomatch z
  | dicT h r => rw [h]; exact fun z => nomatch z
  | ins h r => rw [h]; exact fun z => nomatch z
theorem OC.mono {o : EO} {p : Addr} (s : Stp w H w' H') (e : H' p = H p) (h : OC K cls w H o p) : OC K cls w' H' o p := by
  cases h with
  | lst h r => exact .lst (e.trans h) (r.mono s)
  | dicK h r => exact .dicK (e.trans h) (r.mono s)
  | dicT h r => exact .dicT (e.trans h) (r.mono s)
  | ins h r => exact .ins (e.trans h) (r.mono s)
end

/-- one activation: the written part, the classes, the entry, what is wanted of an exception -/
structure Act where
  K : PySem.W.Frag
  cls : Str → Addr
  F0 : Addr → Prop
  ρ0 : List Addr
  H0 : Hp
  E : Value → Option Addr → L2.St → Hp → Prop

def isOwn : SV → Bool
  | .ol _ => true
  | .od _ _ => true
  | _ => false
/-- a slot's state and its value -/
def SlotOk (K : PySem.W.Frag) (cls : Str → Addr) (w : W) (H : Hp) : SV → Option (Option V) → Prop
  | .no, _ => True
  | .val u, v => ∃ x, v = some (some x) ∧ RU K cls w H u x
  | .ol us, v => ∃ p, v = some (some (.ref p)) ∧ OC K cls w H (.lst us) p
  | .od t us, v => ∃ p, v = some (some (.ref p)) ∧ OC K cls w H (.dic t us) p

structure Rel (a : Act) (w : W) (env : List SV) (hp : List EO) (σ : L2.St) (H : Hp) : Prop where
  len : env.length = σ.length
  slot : ∀ (i : Nat) (s : SV), env[i]? = some s → SlotOk a.K a.cls w H s σ[i]?
  own : ∀ (i : Nat) (s : SV) (p : Addr), env[i]? = some s → isOwn s = true → σ[i]? = some (some (.ref p)) → ¬ w.F p ∧ p ∉ w.ρ ∧ a.H0 p = none
  apart : ∀ (i j : Nat) (s t : SV) (p : Addr), env[i]? = some s → isOwn s = true → σ[i]? = some (some (.ref p)) → env[j]? = some t → isOwn t = true → σ[j]? = some (some (.ref p)) → i = j
  clen : w.ρ.length = hp.length
  cnd : w.ρ.Nodup
  cell : ∀ (i : Nat) (o : EO) (p : Addr), hp[i]? = some o → w.ρ[i]? = some p → OC a.K a.cls w H o p
  cellF : ∀ p ∈ w.ρ, ¬ w.F p
  cell0 : ∀ p ∈ w.ρ, p ∈ a.ρ0 ∨ a.H0 p = none
  pre : ∀ (i : Nat) (p : Addr), a.ρ0[i]? = some p → w.ρ[i]? = some p
  frame : ∀ (x : Addr) (o : HO), a.H0 x = some o → x ∉ a.ρ0 → H x = some o
  frz : ∀ x, w.F x → H x ≠ none
  F0 : ∀ x, w.F x → a.F0 x ∨ a.H0 x = none
  Fpre : ∀ x, a.F0 x → w.F x

section
variable {a : Act} {w : W} {env : List SV} {hp : List EO} {σ : L2.St} {H : Hp} {p : Addr} {o : HO}
theorem Rel.pre_mem (R : Rel a w env hp σ H) {x : Addr} (h : x ∈ a.ρ0) : x ∈ w.ρ := by
  obtain ⟨i, hi⟩ := List.mem_iff_getElem?.mp h
  exact List.mem_of_getElem? (R.pre i x hi)
theorem Rel.cell_there (R : Rel a w env hp σ H) {x : Addr} (h : x ∈ w.ρ) : H x ≠ none := by
  obtain ⟨i, hi⟩ := List.mem_iff_getElem?.mp h
  have hl : i < hp.length := by rw [← R.clen]; exact (List.getElem?_eq_some_iff.mp hi).1
  exact (R.cell i _ x (List.getElem?_eq_getElem hl) hi).there
/-- a new address was free at the entry -/
theorem Rel.fresh0 (R : Rel a w env hp σ H) (h : H p = none) : a.H0 p = none := by
  cases e : a.H0 p with
  | none => rfl
  | some o =>
    by_cases hm : p ∈ a.ρ0
    · exact absurd h (R.cell_there (R.pre_mem hm))
    · rw [R.frame p o e hm] at h; cases h
theorem Rel.slot_there (R : Rel a w env hp σ H) {i : Nat} {s : SV} (e : env[i]? = some s) (h : isOwn s = true) : ∃ p, σ[i]? = some (some (.ref p)) ∧ H p ≠ none := by
  have q := R.slot i s e
  cases s with
  | no => cases h
  | val u => cases h
  | ol us => obtain ⟨p, h1, h2⟩ := q; exact ⟨p, h1, h2.there⟩
  | od t us => obtain ⟨p, h1, h2⟩ := q; exact ⟨p, h1, h2.there⟩
theorem SlotOk.mono {K : PySem.W.Frag} {cls : Str → Addr} {w w' : W} {H H' : Hp} {s : SV} {v : Option (Option V)} (st : Stp w H w' H') (h : SlotOk K cls w H s v) (e : isOwn s = true → ∀ p, v = some (some (.ref p)) → H' p = H p) : SlotOk K cls w' H' s v := by
  cases s with
  | no => trivial
  | val u => obtain ⟨x, h1, h2⟩ := h; exact ⟨x, h1, h2.mono st⟩
  | ol us => obtain ⟨x, h1, h2⟩ := h; exact ⟨x, h1, h2.mono st (e rfl x h1)⟩
  | od t us => obtain ⟨x, h1, h2⟩ := h; exact ⟨x, h1, h2.mono st (e rfl x h1)⟩

/-- one more frozen address -/
abbrev W.more (w : W) (p : Addr) : W := ⟨fun x => w.F x ∨ x = p, w.ρ⟩
theorem Stp.new (R : Rel a w env hp σ H) (h : H p = none) : Stp w H (w.more p) (upd H p o) :=
  ⟨fun _ h => .inl h, fun _ _ h => h, fun x hx => upd_ne fun z => R.frz x hx (by rw [z]; exact h)⟩
/-- a new frozen object -/
theorem Rel.new (R : Rel a w env hp σ H) (h : H p = none) : Rel a (w.more p) env hp σ (upd H p o) := by
  have st : Stp w H (w.more p) (upd H p o) := Stp.new R h
  have ne : ∀ {x : Addr}, H x ≠ none → x ≠ p := fun hx z => hx (by rw [z]; exact h)
  refine ⟨R.len, fun i s e => (R.slot i s e).mono st fun ho q hq => ?_, fun i s q e ho hq => ?_, R.apart, R.clen, R.cnd, fun i u q hi hq => ?_, fun q hq => ?_, R.cell0, R.pre, fun x u hx hm => ?_, fun x hx => ?_, fun x hx => ?_, fun x hx => .inl (R.Fpre x hx)⟩
  · obtain ⟨q', h1, h2⟩ := R.slot_there e ho
    rw [h1] at hq; cases hq
    exact upd_ne (ne h2)
  · obtain ⟨q', h1, h2⟩ := R.slot_there e ho
    rw [h1] at hq; cases hq
    obtain ⟨o1, o2, o3⟩ := R.own i s _ e ho h1
    exact ⟨fun z => z.elim o1 (ne h2), o2, o3⟩
  · exact (R.cell i u q hi hq).mono st (upd_ne (ne (R.cell_there (List.mem_of_getElem? hq))))
  · exact fun z => z.elim (R.cellF q hq) (ne (R.cell_there hq))
  · rw [upd_ne (ne (by rw [R.frame x u hx hm]; exact fun z => nomatch z))]
    exact R.frame x u hx hm
  · rcases hx with hx | hx
    · rw [upd_ne (ne (R.frz x hx))]; exact R.frz x hx
    · rw [hx, upd_same]; exact fun z => nomatch z
  · rcases hx with hx | hx
    · exact R.F0 x hx
    · rw [hx]; exact .inr (R.fresh0 h)
end

/-! ### what an E term gives, as a HandS reading -/
/-- what is wanted of a value -/
def Out {α β : Type} (a : Act) (w : W) (σ : L2.St) (H : Hp) (s : S) (rel : W → Hp → α → β → Prop) (x : α) (Q : β → Hp → Prop) : Prop :=
  ∀ (w' : W) (H' : Hp) (y : β), Stp w H w' H' → Rel a w' s.env s.hp σ H' → rel w' H' x y → Q y H'
/-- what is wanted of an exception -/
def XOut (a : Act) (w : W) (H : Hp) (s : S) (c f : Str) (v : U) : Prop :=
  ∀ (w' : W) (H' : Hp) (d : Addr) (y : V) (σ' : L2.St), Stp w H w' H' → Rel a w' s.env s.hp σ' H' → RU a.K a.cls w' H' v y → H' d = some (.xd [(f, y)]) → a.E (.ref (a.cls c)) (some d) σ' H'
def Sat {α β : Type} (a : Act) (Φ : Phi) (w : W) (σ : L2.St) (H : Hp) (s : S) (m : M α) (rel : W → Hp → α → β → Prop) (Q : β → Hp → Prop) : Prop :=
  Rel a w s.env s.hp σ H ∧ match m Φ s with
    | none => False
    | some (.ok x s') => Out a w σ H s' rel x Q
    | some (.ex c f v s') => XOut a w H s' c f v
def TR {α β : Type} (a : Act) (Φ : Phi) (m : M α) (rel : W → Hp → α → β → Prop) : L2.St → Hp → (β → Hp → Prop) → Prop := fun σ H Q => ∃ w s, Sat a Φ w σ H s m rel Q

section
variable {α β γ δ : Type} {a : Act} {Φ : Phi} {w : W} {σ : L2.St} {H : Hp} {s : S}
theorem Out.step {w' : W} {H' : Hp} {rel : W → Hp → α → β → Prop} {x : α} {Q : β → Hp → Prop} (h : Out a w σ H s rel x Q) (st : Stp w H w' H') : Out a w' σ H' s rel x Q :=
  fun w2 H2 y st2 R r => h w2 H2 y (st.trans st2) R r
theorem XOut.step {w' : W} {H' : Hp} {c f : Str} {v : U} (h : XOut a w H s c f v) (st : Stp w H w' H') : XOut a w' H' s c f v :=
  fun w2 H2 d y s2 st2 R r q => h w2 H2 d y s2 (st.trans st2) R r q
/-- one after the other -/
theorem Sat.bnd {m : M α} {f : α → M γ} {r1 : W → Hp → α → β → Prop} {r2 : W → Hp → γ → δ → Prop} {Q : δ → Hp → Prop} (h : Sat a Φ w σ H s (EL.bnd m f) r2 Q) :
    Sat a Φ w σ H s m r1 (fun y H1 => ∃ (w1 : W) (x : α) (s1 : S), Stp w H w1 H1 ∧ r1 w1 H1 x y ∧ Sat a Φ w1 σ H1 s1 (f x) r2 Q) := by
  obtain ⟨R, h⟩ := h
  refine ⟨R, ?_⟩
  unfold EL.bnd at h
  cases e : m Φ s with
  | none => rw [e] at h; exact h.elim
  | some r =>
    rw [e] at h
    cases r with
    | ex c g v s' => exact h
    | ok x s' =>
      intro w1 H1 y st R1 rx
      refine ⟨w1, x, s', st, rx, R1, ?_⟩
      have h' : match f x Φ s' with
        | none => False
        | some (.ok z s2) => Out a w σ H s2 r2 z Q
        | some (.ex c g v s2) => XOut a w H s2 c g v := h
      cases e2 : f x Φ s' with
      | none => rw [e2] at h'; exact h'
      | some r2 =>
        rw [e2] at h'
        cases r2 with
        | ok z s2 => exact h'.step st
        | ex c g v s2 => exact h'.step st
theorem Sat.ofO {o : Option α} {rel : W → Hp → α → β → Prop} {Q : β → Hp → Prop} (h : Sat a Φ w σ H s (EL.ofO o) rel Q) : ∃ x, o = some x ∧ Out a w σ H s rel x Q := by
  obtain ⟨R, h⟩ := h
  unfold EL.ofO at h
  cases o with
  | none => exact h.elim
  | some x => exact ⟨x, rfl, h⟩
theorem Sat.ret {x : α} {rel : W → Hp → α → β → Prop} {Q : β → Hp → Prop} (h : Sat a Φ w σ H s (EL.ret x) rel Q) : Out a w σ H s rel x Q := h.2
theorem TR.bnd {m : M α} {f : α → M γ} {r1 : W → Hp → α → β → Prop} {r2 : W → Hp → γ → δ → Prop} {Q : δ → Hp → Prop} (h : TR a Φ (EL.bnd m f) r2 σ H Q) :
    TR a Φ m r1 σ H (fun y H1 => ∃ (w0 w1 : W) (H0 : Hp) (x : α) (s1 : S), Stp w0 H0 w1 H1 ∧ r1 w1 H1 x y ∧ Sat a Φ w1 σ H1 s1 (f x) r2 Q) := by
  obtain ⟨w, s, h⟩ := h
  refine ⟨w, s, ?_⟩
  have q := Sat.bnd (r1 := r1) h
  obtain ⟨R, q⟩ := q
  refine ⟨R, ?_⟩
  cases e : m Φ s with
  | none => rw [e] at q; exact q
  | some r =>
    rw [e] at q
    cases r with
    | ok x s' =>
      intro w1 H1 y st R1 rx
      obtain ⟨w2, x2, s2, st2, r2', h2⟩ := q w1 H1 y st R1 rx
      exact ⟨w, w2, H, x2, s2, st2, r2', h2⟩
    | ex c g v s' => exact q
end
end EL
set_option Elab.async false
set_option linter.all false
set_option maxRecDepth 100000
/-! EC1: operations on values. -/
namespace EL
open PySem L2
section
variable {a : Act} {w : W} {env : List SV} {hp : List EO} {σ : L2.St} {H : Hp}
abbrev relU (a : Act) : W → Hp → U → V → Prop := fun w H u v => RU a.K a.cls w H u v
abbrev relUs (a : Act) : W → Hp → List U → List V → Prop := fun w H u v => RUs a.K a.cls w H u v
theorem Out.now {α β : Type} {s : S} {rel : W → Hp → α → β → Prop} {x : α} {y : β} {Q : β → Hp → Prop} (q : Out a w σ H s rel x Q) (R : Rel a w s.env s.hp σ H) (r : rel w H x y) : Q y H := q w H y Stp.refl R r

theorem RUs.length {K : PySem.W.Frag} {cls : Str → Addr} : ∀ {us : List U} {vs : List V}, RUs K cls w H us vs → us.length = vs.length
  | _, _, .nil => rfl
  | _, _, .cons _ t => by rw [List.length_cons, List.length_cons, RUs.length t]
theorem RUs.append {K : PySem.W.Frag} {cls : Str → Addr} : ∀ {us us' : List U} {vs vs' : List V}, RUs K cls w H us vs → RUs K cls w H us' vs' → RUs K cls w H (us ++ us') (vs ++ vs')
  | _, _, _, _, .nil, h => h
  | _, _, _, _, .cons r t, h => .cons r (RUs.append t h)
theorem RUs.get {K : PySem.W.Frag} {cls : Str → Addr} : ∀ {us : List U} {vs : List V} {i : Nat} {u : U}, RUs K cls w H us vs → us[i]? = some u → ∃ v, vs[i]? = some v ∧ RU K cls w H u v
  | _, _, _, _, .nil, e => by simp at e
  | _, _, 0, _, .cons r _, e => by simp at e; subst e; exact ⟨_, rfl, r⟩
  | _, _, i + 1, u, .cons _ t, e => by
    obtain ⟨v, h1, h2⟩ := RUs.get (i := i) (u := u) t (by simpa using e)
    exact ⟨v, by simpa using h1, h2⟩
theorem RUs.get' {K : PySem.W.Frag} {cls : Str → Addr} : ∀ {us : List U} {vs : List V} {i : Nat} {v : V}, RUs K cls w H us vs → vs[i]? = some v → ∃ u, us[i]? = some u ∧ RU K cls w H u v
  | _, _, _, _, .nil, e => by simp at e
  | _, _, 0, _, .cons r _, e => by simp at e; subst e; exact ⟨_, rfl, r⟩
  | _, _, i + 1, u, .cons _ t, e => by
    obtain ⟨v, h1, h2⟩ := RUs.get' (i := i) (v := u) t (by simpa using e)
    exact ⟨v, by simpa using h1, h2⟩
theorem RUs.drop {K : PySem.W.Frag} {cls : Str → Addr} : ∀ {us : List U} {vs : List V} (n : Nat), RUs K cls w H us vs → RUs K cls w H (us.drop n) (vs.drop n)
  | _, _, 0, r => r
  | _, _, _ + 1, .nil => .nil
  | _, _, n + 1, .cons _ t => RUs.drop n t
theorem RUs.take {K : PySem.W.Frag} {cls : Str → Addr} : ∀ {us : List U} {vs : List V} (n : Nat), RUs K cls w H us vs → RUs K cls w H (us.take n) (vs.take n)
  | _, _, 0, _ => .nil
  | _, _, _ + 1, .nil => .nil
  | _, _, n + 1, .cons r t => .cons r (RUs.take n t)
theorem RUs.set {K : PySem.W.Frag} {cls : Str → Addr} {u : U} {v : V} (r : RU K cls w H u v) : ∀ {us : List U} {vs : List V} (i : Nat), RUs K cls w H us vs → RUs K cls w H (us.set i u) (vs.set i v)
  | _, _, _, .nil => .nil
  | _, _, 0, .cons _ t => .cons r t
  | _, _, i + 1, .cons q t => .cons q (RUs.set r i t)
theorem RUs.reverse {K : PySem.W.Frag} {cls : Str → Addr} : ∀ {us : List U} {vs : List V}, RUs K cls w H us vs → RUs K cls w H us.reverse vs.reverse
  | _, _, .nil => .nil
  | _, _, .cons q t => by rw [List.reverse_cons, List.reverse_cons]; exact (RUs.reverse t).append (.cons q .nil)
theorem RUs.dropLast {K : PySem.W.Frag} {cls : Str → Addr} {us : List U} {vs : List V} (h : RUs K cls w H us vs) : RUs K cls w H us.dropLast vs.dropLast := by
  rw [List.dropLast_eq_take, List.dropLast_eq_take, h.length]; exact h.take _
theorem RUs.ints {K : PySem.W.Frag} {cls : Str → Addr} : ∀ {ns : List Int} {vs : List V}, RUs K cls w H (ns.map U.int) vs → vs = ns.map V.int
  | [], _, .nil => rfl
  | n :: ns, _, .cons r t => by cases r; rw [RUs.ints t]; rfl
theorem RUs.of_ints {K : PySem.W.Frag} {cls : Str → Addr} : ∀ (ns : List Int), RUs K cls w H (ns.map U.int) (ns.map V.int)
  | [] => .nil
  | n :: ns => .cons (.int n) (RUs.of_ints ns)

/-! ### data -/
mutual
theorem RU.dp {K : PySem.W.Frag} {cls : Str → Addr} : ∀ {u : U} {v : V} {d : PyData}, RU K cls w H u v → toD u = some d → Dp K H v d
  | _, _, _, .non, e => by cases (Option.some.inj (show some PyData.none = some _ from e)); exact .non
  | _, _, _, .bl b, e => by cases (Option.some.inj (show some (PyData.bool b) = some _ from e)); exact .bl b
  | _, _, _, .int i, e => by cases (Option.some.inj (show some (PyData.int i) = some _ from e)); exact .int i
  | _, _, _, .str x, e => by cases (Option.some.inj (show some (PyData.str x) = some _ from e)); exact .str x
  | .tup us, _, _, .tup f h r, e => by
    simp only [toD] at e
    cases q : toDs us with
    | none => rw [q] at e; cases e
    | some ds => rw [q] at e; cases e; exact .tup (SqT.of h) (RUs.dp r q)
  | .lst us, _, _, .lst f h r, e => by
    simp only [toD] at e
    cases q : toDs us with
    | none => rw [q] at e; cases e
    | some ds => rw [q] at e; cases e; exact .lst (SqL.of h) (RUs.dp r q)
  | _, _, _, .dicK _ _ _, e => by simp [toD] at e
  | _, _, _, .dicT _ _ _, e => by simp [toD] at e
  | _, _, _, .obj _ _ _, e => by simp [toD] at e
  | _, _, _, .ref _, e => by simp [toD] at e
  | _, _, _, .scr _ _, e => by simp [toD] at e
  | _, _, _, .scrK _, e => by simp [toD] at e
theorem RUs.dp {K : PySem.W.Frag} {cls : Str → Addr} : ∀ {us : List U} {vs : List V} {ds : List PyData}, RUs K cls w H us vs → toDs us = some ds → DpAll K H vs ds
  | _, _, _, .nil, e => by cases (Option.some.inj (show some ([] : List PyData) = some _ from e)); exact .nil
  | u :: us, _, _, .cons r t, e => by
    simp only [toDs] at e
    cases q1 : toD u with
    | none => rw [q1] at e; cases e
    | some d =>
      cases q2 : toDs us with
      | none => rw [q1, q2] at e; cases e
      | some ds => rw [q1, q2] at e; cases e; exact .cons (RU.dp r q1) (RUs.dp t q2)
end
theorem toS_some {u : U} {d : PyData} (h : toS u = some d) : toD u = some d ∧ SeqAt.shaped d = true := by
  unfold toS at h
  cases e : toD u with
  | none => rw [e] at h; cases h
  | some d' =>
    rw [e] at h
    by_cases q : SeqAt.shaped d' = true
    · simp only [q, if_true] at h; cases h; exact ⟨rfl, q⟩
    · simp only [q] at h; cases h

/-! ### operators -/
def opOf : BOp → Operator
  | .add => .Add | .sub => .Sub | .mul => .Mult | .fdiv => .FloorDiv | .mod => .Mod | .shl => .LShift | .band => .BitAnd | .bor => .BitOr
def rStrAdd : R2 := fun x y H Q => ∃ i j, x = .str i ∧ y = .str j ∧ i.length + j.length ≤ sizeLine ∧ Q (.str (i ++ j)) H
def rBop (K : PySem.W.Frag) : BOp → R2
  | .add => fun x y H Q => rI0 (fun i j => .int (i + j)) x y H Q ∨ rCat x y H Q ∨ rCatA K x y H Q ∨ rStrAdd x y H Q
  | .sub => rI0 fun i j => .int (i - j)
  | .mul => rI CMul fun i j => .int (i * j)
  | .fdiv => rI CDivN fun i j => .int (i.fdiv j)
  | .mod => rI (fun _ j => j ≠ 0) fun i j => .int (i.fmod j)
  | .shl => rI CPow fun i j => .int (i * 2 ^ j.toNat)
  | .band => rI0 fun i j => .int (Builtin.bitAnd i j)
  | .bor => rI0 fun i j => .int (Builtin.bitOr i j)
theorem OpR.or {X : Cx} {f : Value → Value → Sem Value} {r r' : R2} (h : OpR X f r) (h' : OpR X f r') : OpR X f (fun x y H Q => r x y H Q ∨ r' x y H Q) := by
  intro pins s σ H x y v u Q I rx ry q
  rcases q with q | q
  · exact h pins s σ H x y v u Q I rx ry q
  · exact h' pins s σ H x y v u Q I rx ry q
theorem op_bop {X : Cx} (o : BOp) : OpR X (binaryOp (opOf o)) (rBop X.K o) := by
  cases o with
  | add => exact op_add.or (op_cat.or (op_catA.or op_add_str))
  | sub => exact op_sub
  | mul => exact op_mul
  | fdiv => exact op_fdivN
  | mod => exact op_modN
  | shl => exact op_shl
  | band => exact op_and
  | bor => exact op_or
theorem line_eq : EL.line = sizeLine := rfl
theorem bInt_spec {c : Int → Int → Bool} {C : Int → Int → Prop} {g : Int → Int → Int} (hc : ∀ i j, c i j = true → C i j) {u v z : U} {x y : V} {s : S} {Q : VK} (R : Rel a w s.env s.hp σ H) (rx : RU a.K a.cls w H u x) (ry : RU a.K a.cls w H v y)
    (e : bInt c g u v = some z) (q : Out a w σ H s (relU a) z Q) : rI C (fun i j => .int (g i j)) x y H Q := by
  unfold bInt at e
  split at e
  · rename_i i j
    by_cases h : c i j = true
    · rw [if_pos h] at e; cases e
      cases rx; cases ry
      exact ⟨i, j, rfl, rfl, hc i j h, q.now R (.int _)⟩
    · rw [if_neg h] at e; cases e
  · cases e
theorem bAdd_spec {u v z : U} {x y : V} {s : S} {Q : VK} (R : Rel a w s.env s.hp σ H) (rx : RU a.K a.cls w H u x) (ry : RU a.K a.cls w H v y) (e : bAdd u v = some z) (q : Out a w σ H s (relU a) z Q) : rBop a.K .add x y H Q := by
  unfold bAdd at e
  split at e
  · rename_i i j
    cases rx; cases ry; cases e
    exact .inl ⟨i, j, rfl, rfl, q.now R (.int _)⟩
  · rename_i xs ys
    by_cases hl : xs.length + ys.length ≤ line
    · rw [if_pos hl] at e; cases e
      cases rx with
      | lst f1 h1 r1 =>
        cases ry with
        | lst f2 h2 r2 =>
          refine .inr (.inl ⟨_, _, _, _, rfl, rfl, h1, h2, by rw [← r1.length, ← r2.length]; exact hl, fun p hp => ?_⟩)
          exact q (w.more p) _ _ (Stp.new R hp) (R.new hp) (.lst (.inr rfl) upd_same ((r1.append r2).mono (Stp.new R hp)))
    · rw [if_neg hl] at e; cases e
  · rename_i xs ys
    by_cases hl : xs.length + ys.length ≤ line
    · rw [if_pos hl] at e; cases e
      cases rx with
      | tup f1 h1 r1 =>
        cases ry with
        | tup f2 h2 r2 =>
          refine .inr (.inr (.inl ⟨_, _, _, _, rfl, rfl, SqT.of h1, SqT.of h2, by rw [← r1.length, ← r2.length]; exact hl, fun ex => ?_, fun _ ey => ?_, fun _ _ p hp => ?_⟩))
          · subst ex; cases r1; exact q.now R (.tup f2 h2 r2)
          · subst ey; cases r2; rw [List.append_nil] at q; exact q.now R (.tup f1 h1 r1)
          · exact q (w.more p) _ _ (Stp.new R hp) (R.new hp) (.tup (.inr rfl) upd_same ((r1.append r2).mono (Stp.new R hp)))
    · rw [if_neg hl] at e; cases e
  · rename_i i j
    by_cases hl : i.length + j.length ≤ line
    · rw [if_pos hl] at e; cases e
      cases rx; cases ry
      exact .inr (.inr (.inr ⟨i, j, rfl, rfl, hl, q.now R (.str _)⟩))
    · rw [if_neg hl] at e; cases e
  · cases e
theorem rI_I0 {g : Int → Int → V} {x y : V} {Q : VK} (h : rI (fun _ _ => True) g x y H Q) : rI0 g x y H Q := by
  obtain ⟨i, j, e1, e2, _, q⟩ := h
  exact ⟨i, j, e1, e2, q⟩
theorem bop_spec {o : BOp} {u v z : U} {x y : V} {s : S} {Q : VK} (R : Rel a w s.env s.hp σ H) (rx : RU a.K a.cls w H u x) (ry : RU a.K a.cls w H v y) (e : bop o u v = some z) (q : Out a w σ H s (relU a) z Q) : rBop a.K o x y H Q := by
  cases o with
  | add => exact bAdd_spec R rx ry e q
  | sub => exact rI_I0 (bInt_spec (fun _ _ _ => trivial) R rx ry e q)
  | mul => exact bInt_spec (C := CMul) (fun i j h => of_decide_eq_true (p := _ ∧ _ ∨ _ ∧ _) h) R rx ry e q
  | fdiv => exact bInt_spec (C := CDivN) (fun i j h => of_decide_eq_true (p := _ ∧ _) h) R rx ry e q
  | mod => exact bInt_spec (C := fun _ j => j ≠ 0) (fun i j h => of_decide_eq_true h) R rx ry e q
  | shl => exact bInt_spec (C := CPow) (fun i j h => of_decide_eq_true (p := _ ∧ _ ∧ _) h) R rx ry e q
  | band => exact rI_I0 (bInt_spec (fun _ _ _ => trivial) R rx ry e q)
  | bor => exact rI_I0 (bInt_spec (fun _ _ _ => trivial) R rx ry e q)

/-! ### comparisons -/
def copOf : COp → CmpOp
  | .eq => .Eq | .ne => .NotEq | .lt => .Lt | .le => .LtE | .gt => .Gt | .ge => .GtE | .isN => .Is | .notN => .IsNot
def rLtD (K : PySem.W.Frag) : R2 := fun x y H Q => ∃ d e, Dp K H x d ∧ Dp K H y e ∧ SeqAt.shaped d = true ∧ PySem.W.alike d e = true ∧ d ≠ .none ∧ Q (.bl (PySem.W.dataLt d e)) H
theorem op_ltD {X : Cx} (hu : X.A.units + 64 < cLine) : OpR X (compareOp .Lt) (rLtD X.K) := by
  intro pins s σ H x y v u Q I rx ry h
  obtain ⟨d, e, hd, he, sd, al, nn, q⟩ := h
  obtain ⟨as, r1⟩ := Dp.reads I d x v hd rx
  obtain ⟨bs, r2⟩ := Dp.reads I e y u he ry
  exact PySem.W.rcLt_alike d e X.A s v u as bs r1 r2 al nn (SeqAt.room_of_shaped sd hu) X.prog X.w X.xe _ ⟨.bl _, H, I, rfl, q⟩
def rCop (K : PySem.W.Frag) : COp → R2
  | .eq => rEqD K
  | .ne => rNeD K
  | .lt => fun x y H Q => rI0 (fun i j => .bl (decide (i < j))) x y H Q ∨ rLtD K x y H Q
  | .le => rI0 fun i j => .bl (decide (i ≤ j))
  | .gt => rI0 fun i j => .bl (decide (j < i))
  | .ge => rI0 fun i j => .bl (decide (j ≤ i))
  | .isN => fun x y H Q => y = .non ∧ Q (.bl (decide (x = .non))) H
  | .notN => fun x y H Q => y = .non ∧ Q (.bl (!decide (x = .non))) H
theorem op_cop {X : Cx} (hu : X.A.units + 64 < cLine) (o : COp) : OpR X (compareOp (copOf o)) (rCop X.K o) := by
  cases o with
  | eq => exact op_eqD hu
  | ne => exact op_neD hu
  | lt => exact op_lt.or (op_ltD hu)
  | le => exact op_le
  | gt => exact op_gt
  | ge => exact op_ge
  | isN => exact op_isN
  | notN => exact op_notN
theorem eqU_spec {u v : U} {x y : V} {b : Bool} (rx : RU a.K a.cls w H u x) (ry : RU a.K a.cls w H v y) (e : eqU u v = some b) : ∃ d e, Dp a.K H x d ∧ Dp a.K H y e ∧ SeqAt.shaped d = true ∧ SeqAt.shaped e = true ∧ b = PyData.eqv d e := by
  unfold eqU at e
  split at e
  · rename_i d d' h1 h2
    cases e
    exact ⟨d, d', rx.dp (toS_some h1).1, ry.dp (toS_some h2).1, (toS_some h1).2, (toS_some h2).2, rfl⟩
  · cases e
theorem isNon_spec {u : U} {x : V} (rx : RU a.K a.cls w H u x) : decide (x = .non) = isNon u := by
  cases rx <;> rfl
theorem cInt_spec {g : Int → Int → Bool} {u v : U} {b : Bool} {x y : V} {Q : VK} (rx : RU a.K a.cls w H u x) (ry : RU a.K a.cls w H v y) (e : cInt g u v = some b) (q : Q (.bl b) H) : rI0 (fun i j => .bl (g i j)) x y H Q := by
  unfold cInt at e
  split at e
  · cases rx; cases ry; cases e
    exact ⟨_, _, rfl, rfl, q⟩
  · cases e
theorem ltU_spec {u v : U} {b : Bool} {x y : V} {Q : VK} (rx : RU a.K a.cls w H u x) (ry : RU a.K a.cls w H v y) (e : ltU u v = some b) (q : Q (.bl b) H) : rCop a.K .lt x y H Q := by
  unfold ltU at e
  split at e
  · cases rx; cases ry; cases e
    exact .inl ⟨_, _, rfl, rfl, q⟩
  · unfold ltD at e
    split at e
    · rename_i d d' h1 h2
      by_cases hc : (PySem.W.alike d d' && notNone d) = true
      · rw [if_pos hc] at e
        cases e
        rw [Bool.and_eq_true] at hc
        refine .inr ⟨d, d', rx.dp (toS_some h1).1, ry.dp (toS_some h2).1, (toS_some h1).2, hc.1, fun z => ?_, q⟩
        rw [z] at hc; exact absurd hc.2 (by simp [notNone])
      · rw [if_neg hc] at e; cases e
    · cases e
theorem cNon_spec {neg : Bool} {u v : U} {b : Bool} {x y : V} (rx : RU a.K a.cls w H u x) (ry : RU a.K a.cls w H v y) (e : cNon neg u v = some b) : y = .non ∧ b = (if neg = true then !decide (x = .non) else decide (x = .non)) := by
  unfold cNon at e
  split at e
  · cases ry; cases e
    rw [isNon_spec rx]
    exact ⟨rfl, rfl⟩
  · cases e
theorem cop_spec {o : COp} {u v : U} {b : Bool} {x y : V} {Q : VK} (rx : RU a.K a.cls w H u x) (ry : RU a.K a.cls w H v y) (e : cop o u v = some b) (q : Q (.bl b) H) : rCop a.K o x y H Q := by
  cases o with
  | eq =>
    obtain ⟨d, d', h1, h2, h3, h4, rfl⟩ := eqU_spec rx ry e
    exact ⟨d, d', h1, h2, h3, h4, q⟩
  | ne =>
    have e' : (eqU u v).map (!·) = some b := e
    cases h : eqU u v with
    | none => rw [h] at e'; cases e'
    | some c =>
      rw [h] at e'; cases e'
      obtain ⟨d, d', h1, h2, h3, h4, rfl⟩ := eqU_spec rx ry h
      exact ⟨d, d', h1, h2, h3, h4, q⟩
  | lt => exact ltU_spec rx ry e q
  | le => exact cInt_spec rx ry e q
  | gt => exact cInt_spec rx ry e q
  | ge => exact cInt_spec rx ry e q
  | isN => obtain ⟨h1, rfl⟩ := cNon_spec rx ry e; exact ⟨h1, q⟩
  | notN => obtain ⟨h1, rfl⟩ := cNon_spec rx ry e; exact ⟨h1, q⟩
end
end EL
set_option Elab.async false
set_option linter.all false
set_option maxRecDepth 100000
/-! EC2: handles, keys, what is looked at. -/
namespace EL
open PySem PySem.Spec PyProof.Rows L2
section
variable {a : Act} {w : W} {σ : L2.St} {H : Hp} {s : S}
def HdOk (a : Act) (σ : L2.St) (w : W) (H : Hp) : Hd → V → Prop
  | .sl i, v => σ[i]? = some (some v)
  | .u u, v => RU a.K a.cls w H u v
theorem HdOk.mono {w' : W} {H' : Hp} (st : Stp w H w' H') {h : Hd} {v : V} (q : HdOk a σ w H h v) : HdOk a σ w' H' h v := by
  cases h with
  | sl i => exact q
  | u u => exact RU.mono st q
def SqB (K : PySem.W.Frag) (H : Hp) (p : Addr) (vs : List V) : Bool → Prop
  | true => SqT K H p vs
  | false => SqL K H p vs
theorem SqB.or {K : PySem.W.Frag} {p : Addr} {vs : List V} {t : Bool} (h : SqB K H p vs t) : SqL K H p vs ∨ SqT K H p vs := by
  cases t with
  | true => exact .inr h
  | false => exact .inl h
theorem seq_spec (R : Rel a w s.env s.hp σ H) {h : Hd} {v : V} {t : Bool} {us : List U} (q : HdOk a σ w H h v) (e : seqOf s h = some (t, us)) : ∃ p vs, v = .ref p ∧ RUs a.K a.cls w H us vs ∧ SqB a.K H p vs t := by
  cases h with
  | sl i =>
    simp only [seqOf] at e
    split at e
    · rename_i us' he
      cases e
      obtain ⟨p, h1, h2⟩ := R.slot i _ he
      have hv : σ[i]? = some (some v) := q
      rw [h1] at hv; cases hv
      cases h2 with
      | lst h3 r => exact ⟨p, _, rfl, r, SqL.of h3⟩
    · cases e
  | u u =>
    have q' : RU a.K a.cls w H u v := q
    cases u with
    | lst xs => cases e; cases q' with | lst f h r => exact ⟨_, _, rfl, r, SqL.of h⟩
    | tup xs => cases e; cases q' with | tup f h r => exact ⟨_, _, rfl, r, SqT.of h⟩
    | scr ns =>
      cases e
      cases q' with
      | scr f h => exact ⟨_, _, rfl, RUs.of_ints ns, .inl h⟩
      | scrK h => exact ⟨_, _, rfl, RUs.of_ints ns, h H⟩
    | ref i =>
      simp only [seqOf] at e
      split at e
      · rename_i us' he
        cases e
        cases q' with
        | ref hr =>
          have c := R.cell i _ _ he hr
          cases c with
          | lst h3 r => exact ⟨_, _, rfl, r, SqL.of h3⟩
      · cases e
    | non => cases e
    | bl b => cases e
    | int i => cases e
    | str x => cases e
    | dic t k => cases e
    | obj c f => cases e
/-- what a dict's address holds -/
inductive DcB (K : PySem.W.Frag) (cls : Str → Addr) (w : W) (H : Hp) (p : Addr) : Bool → List (U × U) → Prop
  | k {us : List (U × U)} {ks : List (L2.Key × V)} : Rd H p (.dK ks) → RKs K cls w H us ks → DcB K cls w H p false us
  | t {us : List (U × U)} {ks : List (List L2.Key × V)} : Rd H p (.dT ks) → RTs K cls w H us ks → DcB K cls w H p true us
theorem dic_spec (R : Rel a w s.env s.hp σ H) {h : Hd} {v : V} {t : Bool} {us : List (U × U)} (q : HdOk a σ w H h v) (e : dicOf s h = some (t, us)) : ∃ p, v = .ref p ∧ DcB a.K a.cls w H p t us := by
  cases h with
  | sl i =>
    simp only [dicOf] at e
    split at e
    · rename_i t' us' he
      cases e
      obtain ⟨p, h1, h2⟩ := R.slot i _ he
      have hv : σ[i]? = some (some v) := q
      rw [h1] at hv; cases hv
      cases h2 with
      | dicK h3 r => exact ⟨p, rfl, .k (.inl h3) r⟩
      | dicT h3 r => exact ⟨p, rfl, .t (.inl h3) r⟩
    · cases e
  | u u =>
    have q' : RU a.K a.cls w H u v := q
    cases u with
    | dic t k =>
      cases e
      cases q' with
      | dicK f h r => exact ⟨_, rfl, .k (.inr ⟨_, h⟩) r⟩
      | dicT f h r => exact ⟨_, rfl, .t (.inr ⟨_, h⟩) r⟩
    | ref i =>
      simp only [dicOf] at e
      split at e
      · rename_i t' us' he
        cases e
        cases q' with
        | ref hr =>
          have c := R.cell i _ _ he hr
          cases c with
          | dicK h3 r => exact ⟨_, rfl, .k (.inl h3) r⟩
          | dicT h3 r => exact ⟨_, rfl, .t (.inl h3) r⟩
      · cases e
    | non => cases e
    | bl b => cases e
    | int i => cases e
    | str x => cases e
    | lst x => cases e
    | tup x => cases e
    | obj c f => cases e
    | scr ns => cases e

/-! ### keys -/
theorem toK_kU (k : L2.Key) : toK (kU k) = some k := by cases k <;> rfl
theorem toKs_kU : ∀ ks : List L2.Key, toKs (ks.map kU) = some ks
  | [] => rfl
  | k :: ks => by simp only [List.map_cons, toKs, toK_kU, toKs_kU ks]
theorem toK_some {K : PySem.W.Frag} {cls : Str → Addr} {u : U} {v : V} {k : L2.Key} (r : RU K cls w H u v) (e : toK u = some k) : v = kV k ∧ u = kU k := by
  cases r <;> simp only [toK] at e <;> first | (cases e; done) | (cases e; exact ⟨rfl, rfl⟩)
theorem toKs_some {K : PySem.W.Frag} {cls : Str → Addr} : ∀ {us : List U} {vs : List V} {ks : List L2.Key}, RUs K cls w H us vs → toKs us = some ks → vs = ks.map kV ∧ us = ks.map kU
  | _, _, _, .nil, e => by cases e; exact ⟨rfl, rfl⟩
  | u :: us, v :: vs, ks, .cons r t, e => by
    simp only [toKs] at e
    cases h1 : toK u with
    | none => rw [h1] at e; cases e
    | some k =>
      cases h2 : toKs us with
      | none => rw [h1, h2] at e; cases e
      | some ks' =>
        rw [h1, h2] at e; cases e
        obtain ⟨a1, a2⟩ := toK_some r h1
        obtain ⟨b1, b2⟩ := toKs_some t h2
        exact ⟨by rw [a1, b1]; rfl, by rw [a2, b2]; rfl⟩
theorem toKT_some {K : PySem.W.Frag} {cls : Str → Addr} {u : U} {v : V} {k : List L2.Key} (r : RU K cls w H u v) (e : toKT u = some k) : ∃ b, v = .ref b ∧ H b = some (.tup (k.map kV)) ∧ u = .tup (k.map kU) := by
  cases r <;> simp only [toKT] at e <;> (try (cases e; done))
  rename_i f h q
  obtain ⟨b1, b2⟩ := toKs_some q e
  exact ⟨_, rfl, by rw [← b1]; exact h, by rw [b2]⟩

def OptRel (K : PySem.W.Frag) (cls : Str → Addr) (w : W) (H : Hp) : Option U → Option V → Prop
  | some u, some v => RU K cls w H u v
  | none, none => True
  | _, _ => False
theorem RKs.val {K : PySem.W.Frag} {cls : Str → Addr} (k : L2.Key) : ∀ {us : List (U × U)} {ks : List (L2.Key × V)}, RKs K cls w H us ks →
    OptRel K cls w H ((us.find? fun e => decide (toK e.1 = some k)).map (·.2)) (valV ks k)
  | _, _, .nil => trivial
  | _, _, .cons (k := k') (us := us) (vs := vs) (u := u) (v := v) r t => by
    by_cases e : k' = k
    · subst e
      rw [valV_pos (by rfl), List.find?_cons_of_pos (by simp [toK_kU])]
      exact r
    · rw [valV_neg (by exact e), List.find?_cons_of_neg (by simp [toK_kU]; exact e)]
      exact RKs.val k t
theorem RTs.val {K : PySem.W.Frag} {cls : Str → Addr} (k : List L2.Key) : ∀ {us : List (U × U)} {ks : List (List L2.Key × V)}, RTs K cls w H us ks →
    OptRel K cls w H ((us.find? fun e => decide (toKT e.1 = some k)).map (·.2)) (valV ks k)
  | _, _, .nil => trivial
  | _, _, .cons (k := k') (us := us) (vs := vs) (u := u) (v := v) r t => by
    by_cases e : k' = k
    · subst e
      rw [valV_pos (by rfl), List.find?_cons_of_pos (by simp [toKT, toKs_kU])]
      exact r
    · rw [valV_neg (by exact e), List.find?_cons_of_neg (by simp [toKT, toKs_kU]; exact e)]
      exact RTs.val k t
theorem RKs.length {K : PySem.W.Frag} {cls : Str → Addr} : ∀ {us : List (U × U)} {ks : List (L2.Key × V)}, RKs K cls w H us ks → us.length = ks.length
  | _, _, .nil => rfl
  | _, _, .cons _ t => by rw [List.length_cons, List.length_cons, RKs.length t]
theorem RTs.length {K : PySem.W.Frag} {cls : Str → Addr} : ∀ {us : List (U × U)} {ks : List (List L2.Key × V)}, RTs K cls w H us ks → us.length = ks.length
  | _, _, .nil => rfl
  | _, _, .cons _ t => by rw [List.length_cons, List.length_cons, RTs.length t]
/-- a look-up in E is one in the abstract heap -/
theorem look_spec {p : Addr} {t : Bool} {kvs : List (U × U)} {k : U} {y : V} {o : Option U} (d : DcB a.K a.cls w H p t kvs) (ry : RU a.K a.cls w H k y) (e : look t kvs k = some o) :
    ∃ r, DGet H p y r ∧ OptRel a.K a.cls w H o r := by
  cases d with
  | k h r =>
    simp only [look] at e
    cases q : toK k with
    | none => rw [q] at e; cases e
    | some kk =>
      rw [q] at e; cases e
      obtain ⟨rfl, rfl⟩ := toK_some ry q
      exact ⟨_, .inl ⟨_, kk, h, rfl, rfl⟩, r.val kk⟩
  | t h r =>
    simp only [look] at e
    cases q : toKT k with
    | none => rw [q] at e; cases e
    | some kk =>
      rw [q] at e; cases e
      obtain ⟨b, rfl, hb, rfl⟩ := toKT_some ry q
      exact ⟨_, .inr ⟨_, kk, b, h, rfl, hb, rfl⟩, r.val kk⟩

/-! ### items, in, len -/
theorem atI_spec {K : PySem.W.Frag} {cls : Str → Addr} {us : List U} {vs : List V} {i : Int} {u : U} (r : RUs K cls w H us vs) (e : L2.atI us i = some u) : ∃ v, L2.atI vs i = some v ∧ RU K cls w H u v := by
  unfold L2.atI at e ⊢
  rw [← r.length]
  cases h : L2.ixN us.length i with
  | none => rw [h] at e; cases e
  | some j => rw [h] at e; exact r.get e
def rDGet : R2 := fun x y H Q => ∃ p v, x = .ref p ∧ DGet H p y (some v) ∧ Q v H
theorem ix_dict {X : Cx} (hu : X.A.units + 1 < cLine) : IxR X rDGet := by
  intro value slice pins s σ H x y v u Q I rx ry h hs
  obtain ⟨p, z, rfl, g, q⟩ := h
  cases rx
  have hT := dict_typeIs I g
  have h2 := d_getItem (Q := EP X pins σ Q) (E := X.xe) (A := X.A) hu I g ry fun w' s3 I3 rw' => ⟨z, H, I3, rw', q⟩
  unfold subscriptTail
  refine wpAny_bind ?_
  rw [getitemInPython_of_ne hT.not_modules]
  refine wpAny_bind (wpAny_specialOf hT PySem.F.slot_dict_getitem.lookup ?_)
  have fin : wpAny (model X.prog X.w) X.A (subscripted slice false (Value.ref p) u) (fun r s₃ => wpAny (model X.prog X.w) X.A (letTemporaryGo value (Value.ref p) r >>= fun _ => pure r) (EP X pins σ Q) X.xe s₃) X.xe s := by
    rw [hs]
    exact wpAny_operating (wpAny_mono h2 (fun r s₃ h₃ => wpAny_bind (wpAny_letTemporaryGo (wpAny_pure h₃))) fun _ _ x => x)
  first
    | exact wpAny_pure (wpAny_bind fin)
    | exact wpAny_bind (wpAny_pure (wpAny_bind fin))
    | exact wpAny_bind fin
def rGet (K : PySem.W.Frag) : R2 := fun x y H Q => rIxL K x y H Q ∨ rIxT K x y H Q ∨ rDGet x y H Q
theorem ix_get {X : Cx} (hu : X.A.units + 1 < cLine) : IxR X (rGet X.K) := IxR.or ix_list (IxR.or ix_tup (ix_dict hu))
theorem get_spec (R : Rel a w s.env s.hp σ H) {h : Hd} {i z : U} {x y : V} {Q : VK} (q : HdOk a σ w H h x) (ry : RU a.K a.cls w H i y) (e : getU s h i = some z) (k : ∀ v, RU a.K a.cls w H z v → Q v H) : rGet a.K x y H Q := by
  unfold getU at e
  split at e
  · rename_i t us e1
    obtain ⟨p, vs, rfl, r, hs⟩ := seq_spec R q e1
    split at e
    · cases ry
      obtain ⟨v, h1, h2⟩ := atI_spec r e
      cases t with
      | true => exact .inr (.inl ⟨p, vs, _, v, rfl, rfl, hs, h1, k v h2⟩)
      | false => exact .inl ⟨p, vs, _, v, rfl, rfl, hs, h1, k v h2⟩
    · cases e
  · split at e
    · rename_i t kvs e2
      obtain ⟨p, rfl, d⟩ := dic_spec R q e2
      split at e
      · rename_i v e3
        cases e
        obtain ⟨r, g, m⟩ := look_spec d ry e3
        cases r with
        | none => exact m.elim
        | some r => exact .inr (.inr ⟨p, r, rfl, g, k r m⟩)
      · cases e
    · cases e

def rInQ (K : PySem.W.Frag) (neg : Bool) : R2 := fun x y H Q => ∃ p xs d ds, y = .ref p ∧ (SqL K H p xs ∨ SqT K H p xs) ∧ Dp K H x d ∧ DpAll K H xs ds ∧ SeqAt.shaped d = true ∧ PyData.canLayAll0 ds = true ∧
  Q (.bl (if neg = true then !ds.any (fun z => PyData.eqv z d) else ds.any fun z => PyData.eqv z d)) H
theorem any_read {h : Heap} {d : PyData} : ∀ {vs : List Value} {ds : List PyData} {as : List Addr}, ReadsAll h vs ds as → PyData.canLayAll0 ds = true → (vs.any fun y => PyData.eqv (SeqAt.readOf h y) d) = ds.any fun z => PyData.eqv z d := by
  intro vs ds as r c
  rw [← SeqAt.readsAll_map ds vs as c r, List.any_map]
  rfl
theorem op_inQ {X : Cx} (hu : X.A.units + 65 < cLine) : OpR X (compareOp .In) (rInQ X.K false) := by
  intro pins s σ H x y v u Q I rx ry h
  obtain ⟨p, xs, d, ds, rfl, hq, hd, hds, sd, cl, q⟩ := h
  cases ry
  obtain ⟨as, r1⟩ := Dp.reads I d x v hd rx
  rcases hq with hq | hq
  · obtain ⟨its, r, pl, hz⟩ := I.list hq
    obtain ⟨bs, r2⟩ := Dp.readsAll I ds _ its hds r
    have hr : ReadsAll s.heap its.toArray.toList ds bs := r2
    refine SeqAt.in_listAt (fun z => PyData.eqv (SeqAt.readOf s.heap z) d) pl.isList (SeqAt.items_eqAt hr r1 cl (SeqAt.canLay_of_shaped sd) (room_in_shaped sd hu)) ⟨.bl _, H, I, rfl, ?_⟩
    rw [show (its.toArray.any fun z => PyData.eqv (SeqAt.readOf s.heap z) d) = its.any fun z => PyData.eqv (SeqAt.readOf s.heap z) d by simp, any_read r2 cl]
    exact q
  · obtain ⟨its, r, pl, hz⟩ := I.tuple hq
    obtain ⟨bs, r2⟩ := Dp.readsAll I ds _ its hds r
    have hr : ReadsAll s.heap its.toArray.toList ds bs := r2
    refine SeqAt.in_tupleAt (fun z => PyData.eqv (SeqAt.readOf s.heap z) d) pl (SeqAt.items_eqAt hr r1 cl (SeqAt.canLay_of_shaped sd) (room_in_shaped sd hu)) ⟨.bl _, H, I, rfl, ?_⟩
    rw [show (its.toArray.any fun z => PyData.eqv (SeqAt.readOf s.heap z) d) = its.any fun z => PyData.eqv (SeqAt.readOf s.heap z) d by simp, any_read r2 cl]
    exact q
theorem op_notInQ {X : Cx} (hu : X.A.units + 65 < cLine) : OpR X (compareOp .NotIn) (rInQ X.K true) := by
  intro pins s σ H x y v u Q I rx ry h
  obtain ⟨p, xs, d, ds, rfl, hq, hd, hds, sd, cl, q⟩ := h
  cases ry
  obtain ⟨as, r1⟩ := Dp.reads I d x v hd rx
  rcases hq with hq | hq
  · obtain ⟨its, r, pl, hz⟩ := I.list hq
    obtain ⟨bs, r2⟩ := Dp.readsAll I ds _ its hds r
    have hr : ReadsAll s.heap its.toArray.toList ds bs := r2
    refine SeqAt.notIn_listAt (fun z => PyData.eqv (SeqAt.readOf s.heap z) d) pl.isList (SeqAt.items_eqAt hr r1 cl (SeqAt.canLay_of_shaped sd) (room_in_shaped sd hu)) ⟨.bl _, H, I, rfl, ?_⟩
    rw [show (its.toArray.any fun z => PyData.eqv (SeqAt.readOf s.heap z) d) = its.any fun z => PyData.eqv (SeqAt.readOf s.heap z) d by simp, any_read r2 cl]
    exact q
  · obtain ⟨its, r, pl, hz⟩ := I.tuple hq
    obtain ⟨bs, r2⟩ := Dp.readsAll I ds _ its hds r
    have hr : ReadsAll s.heap its.toArray.toList ds bs := r2
    refine SeqAt.notIn_tupleAt (fun z => PyData.eqv (SeqAt.readOf s.heap z) d) pl (SeqAt.items_eqAt hr r1 cl (SeqAt.canLay_of_shaped sd) (room_in_shaped sd hu)) ⟨.bl _, H, I, rfl, ?_⟩
    rw [show (its.toArray.any fun z => PyData.eqv (SeqAt.readOf s.heap z) d) = its.any fun z => PyData.eqv (SeqAt.readOf s.heap z) d by simp, any_read r2 cl]
    exact q
def rInDc (neg : Bool) : R2 := fun x y H Q => ∃ p o, y = .ref p ∧ DGet H p x o ∧ Q (.bl (if neg = true then !o.isSome else o.isSome)) H
theorem op_inDc {X : Cx} (hu : X.A.units + 1 < cLine) : OpR X (compareOp .In) (rInDc false) := by
  intro pins s σ H x y v u Q I rx ry h
  obtain ⟨p, o, rfl, g, q⟩ := h
  cases ry
  exact d_in hu I g rx fun s3 I3 => ⟨.bl _, H, I3, rfl, q⟩
theorem op_notInDc {X : Cx} (hu : X.A.units + 1 < cLine) : OpR X (compareOp .NotIn) (rInDc true) := by
  intro pins s σ H x y v u Q I rx ry h
  obtain ⟨p, o, rfl, g, q⟩ := h
  cases ry
  exact d_notIn hu I g rx fun s3 I3 => ⟨.bl _, H, I3, rfl, q⟩
def rMem (K : PySem.W.Frag) (neg : Bool) : R2 := fun x y H Q => rInQ K neg x y H Q ∨ rInDc neg x y H Q
def inOp : Bool → CmpOp
  | true => .NotIn
  | false => .In
theorem op_mem {X : Cx} (hu : X.A.units + 65 < cLine) (neg : Bool) : OpR X (compareOp (inOp neg)) (rMem X.K neg) := by
  cases neg with
  | false => exact (op_inQ hu).or (op_inDc (by omega))
  | true => exact (op_notInQ hu).or (op_notInDc (by omega))
theorem shaped_lst {ds : List PyData} (h : SeqAt.shaped (.list ds) = true) : PyData.canLayAll0 ds = true := SeqAt.canLay_of_shaped h
theorem mem_spec (R : Rel a w s.env s.hp σ H) {neg : Bool} {h : Hd} {u : U} {b : Bool} {x y : V} {Q : VK} (rx : RU a.K a.cls w H u x) (q : HdOk a σ w H h y) (e : memU s u h = some b) (k : Q (.bl (if neg = true then !b else b)) H) : rMem a.K neg x y H Q := by
  unfold memU at e
  split at e
  · rename_i t us e1
    obtain ⟨p, vs, rfl, r, hs⟩ := seq_spec R q e1
    unfold inU at e
    split at e
    · rename_i d ds h1 h2
      cases e
      obtain ⟨h2, h3⟩ := toS_some h2
      have h4 : toDs us = some ds := by
        simp only [toD] at h2
        cases q : toDs us with
        | none => rw [q] at h2; cases h2
        | some z => rw [q] at h2; cases h2; rfl
      exact .inl ⟨p, vs, d, ds, rfl, hs.or, rx.dp (toS_some h1).1, r.dp h4, (toS_some h1).2, shaped_lst h3, k⟩
    · cases e
  · split at e
    · rename_i t kvs e2
      obtain ⟨p, rfl, d⟩ := dic_spec R q e2
      cases e3 : look t kvs u with
      | none => rw [e3] at e; cases e
      | some o =>
        rw [e3] at e; cases e
        obtain ⟨r, g, m⟩ := look_spec d rx e3
        refine .inr ⟨p, r, rfl, g, ?_⟩
        have : r.isSome = o.isSome := by
          cases o <;> cases r <;> first | rfl | exact m.elim
        rw [this]
        exact k
    · cases e
def rLenD : List V → Hp → VK → Prop := fun xs H Q => ∃ p kvs, xs = [V.ref p] ∧ Rd H p (.dK kvs) ∧ Q (.int kvs.length) H
theorem call_lenK {X : Cx} : CallR X (.builtin "len") rLenD := by
  intro pins s σ H xs us Q I r h
  obtain ⟨p, kvs, rfl, hp, q⟩ := h
  obtain ⟨u, rfl, rx⟩ := vals1 r
  cases rx
  exact d_len I hp fun t s' I' => ⟨.int kvs.length, H, I', ⟨t, rfl⟩, q⟩
end
end EL
set_option Elab.async false
set_option linter.all false
set_option maxRecDepth 100000
/-! EC3: names; freezing. -/
namespace EL
open PySem PySem.Spec PyProof.Rows L2
section
variable {a : Act} {w : W} {env : List SV} {hp : List EO} {σ : L2.St} {H : Hp} {s : S} {p : Addr}
theorem Stp.more {w : W} {H : Hp} {p : Addr} : Stp w H (w.more p) H := ⟨fun _ h => .inl h, fun _ _ h => h, fun _ _ => rfl⟩
theorem upd_out {H : Hp} {p : Addr} {o : HO} : ∀ q, q ≠ p → upd H p o q = H q := fun q h => upd_ne h
/-- an own list or dict of a slot becomes a value -/
theorem Rel.freeze (R : Rel a w env hp σ H) {i : Nat} {s0 : SV} {u : U} {H' : Hp} (he : env[i]? = some s0) (ho : isOwn s0 = true) (hσ : σ[i]? = some (some (.ref p))) (hn : H' p ≠ none) (hk : ∀ q, q ≠ p → H' q = H q)
    (hr : RU a.K a.cls (w.more p) H' u (.ref p)) : Rel a (w.more p) (env.set i (.val u)) hp σ H' ∧ Stp w H (w.more p) H' := by
  obtain ⟨o1, o2, o3⟩ := R.own i s0 p he ho hσ
  have il : i < env.length := (List.getElem?_eq_some_iff.mp he).1
  have neF : ∀ x, w.F x → x ≠ p := fun x hx z => o1 (z ▸ hx)
  have st : Stp w H (w.more p) H' := ⟨fun _ h => .inl h, fun _ _ h => h, fun x hx => hk x (neF x hx)⟩
  have hset : ∀ {j : Nat} {t : SV}, j ≠ i → (env.set i (.val u))[j]? = some t → env[j]? = some t := fun {j t} hj e => by
    rw [List.getElem?_set_ne (Ne.symm hj)] at e; exact e
  refine ⟨⟨by rw [List.length_set]; exact R.len, fun j t e => ?_, fun j t q e h hq => ?_, fun j k t t' q e h hq e' h' hq' => ?_, R.clen, R.cnd, fun j o q ho' hq => ?_, fun q hq => ?_, R.cell0, R.pre, fun x o hx hm => ?_, fun x hx => ?_, fun x hx => ?_, fun x hx => .inl (R.Fpre x hx)⟩, st⟩
  · by_cases hj : j = i
    · subst hj
      rw [List.getElem?_set_self il] at e; cases e
      exact ⟨.ref p, hσ, hr⟩
    · have e' := hset hj e
      refine (R.slot j t e').mono st fun h q hq => hk q fun z => ?_
      subst z
      exact hj (R.apart j i t s0 q e' h hq he ho hσ)
  · by_cases hj : j = i
    · subst hj; rw [List.getElem?_set_self il] at e; cases e; cases h
    · have e' := hset hj e
      obtain ⟨q1, q2, q3⟩ := R.own j t q e' h hq
      refine ⟨fun z => z.elim q1 fun z => ?_, q2, q3⟩
      subst z
      exact hj (R.apart j i t s0 q e' h hq he ho hσ)
  · by_cases hj : j = i
    · subst hj; rw [List.getElem?_set_self il] at e; cases e; cases h
    · by_cases hk' : k = i
      · subst hk'; rw [List.getElem?_set_self il] at e'; cases e'; cases h'
      · exact R.apart j k t t' q (hset hj e) h hq (hset hk' e') h' hq'
  · exact (R.cell j o q ho' hq).mono st (hk q fun z => o2 (z ▸ List.mem_of_getElem? hq))
  · exact fun z => z.elim (R.cellF q hq) fun z => o2 (z ▸ hq)
  · rw [hk x fun z => by subst z; rw [o3] at hx; cases hx]
    exact R.frame x o hx hm
  · rcases hx with hx | hx
    · rw [hk x (neF x hx)]; exact R.frz x hx
    · rw [hx]; exact hn
  · rcases hx with hx | hx
    · exact R.F0 x hx
    · rw [hx]; exact .inr o3

def isDic : HO → Bool
  | .dK _ => true
  | .dT _ => true
  | _ => false
theorem Inv.frz {X : Cx} {pins : List (Addr × Obj)} {sh : Shared} {u : HO} (I : Inv X pins σ H sh) (h : H p = some u) (hd : isDic u = true) : ∃ o, Inv X pins σ (upd H p (.frz o u)) sh := by
  have ok := I.hok p u h
  have hob : ∃ o, sh.heap.get? p = some o := by
    cases u <;> first | (cases hd; done) | skip
    · obtain ⟨_, _, _, _, o, _, _, e, _⟩ := ok; exact ⟨o, e⟩
    · obtain ⟨_, _, _, _, o, _, _, e, _⟩ := ok; exact ⟨o, e⟩
  obtain ⟨o, eo⟩ := hob
  have nt : ∀ b xs, H b = some (.tup xs) → b ≠ p := fun b xs e z => by subst z; rw [h] at e; cases e; cases hd
  have no : ∀ b x, H b = some (.own x) → b ≠ p := fun b x e z => by subst z; rw [h] at e; cases e; cases hd
  have nf : ∀ b o u', H b = some (.frz o u') → b ≠ p := fun b o u' e z => by subst z; rw [h] at e; cases e; cases hd
  have nb : ∀ b ps, H b = some (.tbl ps) → b ≠ p := fun b ps e z => by subst z; rw [h] at e; cases e; cases hd
  refine ⟨o, I.un (h' := sh.heap) (t' := sh.toks) ⟨fun b ob q _ _ _ => q, fun b ob q _ _ _ => ⟨ob.slots, q⟩, fun b ob q n _ => ?_, fun b ob q _ => ⟨ob, q⟩, fun b xs q => ?_, fun b ob u' q => ?_, fun b ps q => ⟨#[], ?_⟩⟩ fun b v e => ?_⟩
  · rw [upd_ne fun z => by subst z; rw [h] at n; cases n]; exact n
  · rw [upd_ne (nt b xs q)]; exact q
  · rw [upd_ne (nf b ob u' q)]; exact q
  · rw [upd_ne (nb b ps q)]; simpa using q
  · have tr : ∀ {c : Addr} {z : HO}, ObjOk X.prog X.w H sh.heap c z → ObjOk X.prog X.w (upd H p (.frz o u)) sh.heap c z := fun {c z} k =>
      k.stay (fun b u' _ q => q) (fun b q => by rw [upd_ne (no b _ q)]; exact q) fun b xs q => by rw [upd_ne (nt b xs q)]; exact q
    by_cases hb : b = p
    · subst hb; rw [upd_same] at e; cases e
      exact ⟨eo, tr ok⟩
    · rw [upd_ne hb] at e
      exact tr (I.hok b v e)

def tVarE (i : Nat) : TE := fun σ H Q => ∃ v, σ[i]? = some (some v) ∧ (Q v H ∨ ∃ p u, v = .ref p ∧ H p = some u ∧ isDic u = true ∧ ∀ o, Q v (upd H p (.frz o u)))
theorem pe_varE {X : Cx} {i : Nat} {x : Str} {pos : Pos} (hN : X.N[i]? = some x) (hv : Vis X.env.scope x) (hd : (x == ("__debug__" : Str)) = false) (hcd : (x == ("__classdict__" : Str)) = false) : PE X (.Name x pos) (tVarE i) := by
  refine ⟨fun pins s σ H Q I h => ?_⟩
  obtain ⟨v, h1, h2⟩ := h
  refine thn ((pe_var (pos := pos) hN hv hd hcd).run pins s σ H (fun v' H' => v' = v ∧ H' = H) I ⟨v, h1, rfl, rfl⟩) fun u s1 ⟨v', H1, I1, r1, e1, e2⟩ => ?_
  subst e1 e2
  rcases h2 with q | ⟨p, u', rfl, h3, h4, q⟩
  · exact ⟨_, _, I1, r1, q⟩
  · obtain ⟨o, I2⟩ := Inv.frz I1 h3 h4
    exact ⟨_, _, I2, r1, q o⟩

theorem PE.imp {X : Cx} {e : Expr} {t t' : TE} (h : PE X e t) (i : ∀ σ H Q, t' σ H Q → t σ H Q) : PE X e t' := ⟨fun pins s σ H Q I q => h.run pins s σ H Q I (i σ H Q q)⟩
theorem PT.imp {X : Cx} {e : Expr} {t t' : TT} (h : PT X e t) (i : ∀ σ H Q, t' σ H Q → t σ H Q) : PT X e t' := ⟨fun pins s σ H Q I q => h.run pins s σ H Q I (i σ H Q q)⟩
theorem PA.imp {X : Cx} {e : List Expr} {t t' : TA} (h : PA X e t) (i : ∀ σ H Q, t' σ H Q → t σ H Q) : PA X e t' := ⟨fun pos pins s σ H Q I q => h.run pos pins s σ H Q I (i σ H Q q)⟩
theorem PS.imp {X : Cx} {e : Stmt} {t t' : TS} (h : PS X e t) (i : ∀ D σ H, t' D σ H → t D σ H) : PS X e t' := ⟨fun pins s σ H D I q => h.run pins s σ H D I (i D σ H q)⟩
theorem PSs.imp {X : Cx} {e : List Stmt} {t t' : TS} (h : PSs X e t) (i : ∀ D σ H, t' D σ H → t D σ H) : PSs X e t' := ⟨fun pins s σ H D I q => h.run pins s σ H D I (i D σ H q)⟩
theorem PW.imp {X : Cx} {e : Expr} {t t' : TT} (h : PW X e t) (i : ∀ σ H Q, t' σ H Q → t σ H Q) : PW X e t' := ⟨fun wh pins s σ H Q I q => h.run wh pins s σ H Q I (i σ H Q q)⟩

/-! ### the judgements over E -/
abbrev relB : W → Hp → Bool → Bool → Prop := fun _ _ b c => b = c
def SE (X : Cx) (a : Act) (Φ : Phi) (e : Expr) (m : M U) : Prop := PE X e (TR a Φ m (relU a))
def SH (X : Cx) (a : Act) (Φ : Phi) (e : Expr) (m : M Hd) : Prop := PE X e fun σ H Q => TR a Φ m (HdOk a σ) σ H Q
def STt (X : Cx) (a : Act) (Φ : Phi) (e : Expr) (m : M Bool) : Prop := PT X e (TR a Φ m relB)
def SA (X : Cx) (a : Act) (Φ : Phi) (es : List Expr) (m : M (List U)) : Prop := PA X es (TR a Φ m (relUs a))

section
variable {X : Cx} {Φ : Phi} {e e1 e2 : Expr} {m m1 m2 : M U} {pos : Pos} {i : Nat} {x : Str}
theorem se_var (hN : X.N[i]? = some x) (hv : Vis X.env.scope x) (hd : (x == ("__debug__" : Str)) = false) (hcd : (x == ("__classdict__" : Str)) = false) : SE X a Φ (.Name x pos) (eVar i) :=
  PE.imp (pe_varE hN hv hd hcd) fun σ H Q ⟨w, s, R, h⟩ => by
    unfold eVar at h
    cases e : s.env[i]? with
    | none => rw [e] at h; exact h.elim
    | some sv =>
      rw [e] at h
      cases sv with
      | no => exact h.elim
      | val u =>
        obtain ⟨v, h1, h2⟩ := R.slot i _ e
        exact ⟨v, h1, .inl (Out.now h R h2)⟩
      | ol us =>
        obtain ⟨p, h1, h2⟩ := R.slot i _ e
        refine ⟨.ref p, h1, .inl ?_⟩
        cases h2 with
        | lst h3 r =>
          have R' := R.freeze (u := .lst us) (H' := H) e rfl h1 (by rw [h3]; exact fun z => nomatch z) (fun _ _ => rfl) (.lst (.inr rfl) h3 (r.mono Stp.more))
          exact h _ _ _ R'.2 R'.1 (.lst (.inr rfl) h3 (r.mono R'.2))
      | od t kvs =>
        obtain ⟨p, h1, h2⟩ := R.slot i _ e
        obtain ⟨o1, o2, o3⟩ := R.own i _ p e rfl h1
        refine ⟨.ref p, h1, .inr ?_⟩
        have st : ∀ z, Stp w H (w.more p) (upd H p z) := fun z => ⟨fun _ h => .inl h, fun _ _ h => h, fun x hx => upd_ne fun z => o1 (z ▸ hx)⟩
        cases h2 with
        | dicK h3 r =>
          refine ⟨p, _, rfl, h3, rfl, fun o => ?_⟩
          have r' : RU a.K a.cls (w.more p) (upd H p (.frz o _)) (.dic false kvs) (.ref p) := .dicK (.inr rfl) upd_same (r.mono (st _))
          have R' := R.freeze (H' := upd H p (.frz o _)) e rfl h1 (by rw [upd_same]; exact fun z => nomatch z) upd_out r'
          exact h _ _ _ R'.2 R'.1 r'
        | dicT h3 r =>
          refine ⟨p, _, rfl, h3, rfl, fun o => ?_⟩
          have r' : RU a.K a.cls (w.more p) (upd H p (.frz o _)) (.dic true kvs) (.ref p) := .dicT (.inr rfl) upd_same (r.mono (st _))
          have R' := R.freeze (H' := upd H p (.frz o _)) e rfl h1 (by rw [upd_same]; exact fun z => nomatch z) upd_out r'
          exact h _ _ _ R'.2 R'.1 r'
theorem sh_slot (hN : X.N[i]? = some x) (hv : Vis X.env.scope x) (hd : (x == ("__debug__" : Str)) = false) (hcd : (x == ("__classdict__" : Str)) = false) : SH X a Φ (.Name x pos) (mSlot i) :=
  PE.imp (t := tVar i) (pe_var hN hv hd hcd) fun σ H Q ⟨w, s, R, h⟩ => by
    unfold mSlot at h
    cases e : s.env[i]? with
    | none => rw [e] at h; exact h.elim
    | some sv =>
      rw [e] at h
      cases sv with
      | no => exact h.elim
      | val u =>
        obtain ⟨v, h1, h2⟩ := R.slot i _ e
        exact ⟨v, h1, h _ _ _ Stp.refl R h2⟩
      | ol us =>
        obtain ⟨p, h1, h2⟩ := R.slot i _ e
        exact ⟨.ref p, h1, h _ _ _ Stp.refl R h1⟩
      | od t us =>
        obtain ⟨p, h1, h2⟩ := R.slot i _ e
        exact ⟨.ref p, h1, h _ _ _ Stp.refl R h1⟩
end
end
end EL
set_option Elab.async false
set_option linter.all false
set_option maxRecDepth 100000
/-! EC4: constants, operators, comparisons, truth, displays. -/
namespace EL
open PySem PySem.Spec PyProof.Rows L2

/-- a relation that stays -/
def Mono {α β : Type} (r : W → Hp → α → β → Prop) : Prop := ∀ {w w' : W} {H H' : Hp} {x : α} {y : β}, Stp w H w' H' → r w H x y → r w' H' x y
theorem monoU (a : Act) : Mono (relU a) := fun st h => RU.mono st h
theorem monoUs (a : Act) : Mono (relUs a) := fun st h => RUs.mono st h
theorem monoH (a : Act) (σ : L2.St) : Mono (HdOk a σ) := fun st h => HdOk.mono st h
theorem monoB : Mono relB := fun _ h => h

section
variable {α β γ δ ε ζ : Type} {a : Act} {Φ : Phi} {w : W} {σ : L2.St} {H : Hp} {s : S}
theorem TR.step {m : M α} {f : α → M γ} {r1 : W → Hp → α → β → Prop} {r2 : W → Hp → γ → δ → Prop} {Q : δ → Hp → Prop} (h : TR a Φ (EL.bnd m f) r2 σ H Q) :
    TR a Φ m r1 σ H (fun y H1 => ∃ (w1 : W) (x : α) (s1 : S), r1 w1 H1 x y ∧ Sat a Φ w1 σ H1 s1 (f x) r2 Q) := by
  obtain ⟨w, s, h⟩ := h
  obtain ⟨R, q⟩ := Sat.bnd (r1 := r1) h
  refine ⟨w, s, R, ?_⟩
  cases e : m Φ s with
  | none => rw [e] at q; exact q
  | some r =>
    rw [e] at q
    cases r with
    | ok x s' =>
      intro w1 H1 y st R1 rx
      obtain ⟨w2, x2, s2, _, r2', h2⟩ := q w1 H1 y st R1 rx
      exact ⟨w2, x2, s2, r2', h2⟩
    | ex c g v s' => exact q
theorem TR.one {m : M α} {k : α → M γ} {r1 : W → Hp → α → β → Prop} {r : W → Hp → γ → δ → Prop} {Q : δ → Hp → Prop} {P : β → Hp → Prop} (h : TR a Φ (EL.bnd m k) r σ H Q)
    (f : ∀ (w : W) (H : Hp) (s : S) (x : α) (y : β), r1 w H x y → Sat a Φ w σ H s (k x) r Q → P y H) : TR a Φ m r1 σ H P := by
  obtain ⟨w, s, R, q⟩ := TR.step (r1 := r1) h
  refine ⟨w, s, R, ?_⟩
  cases e : m Φ s with
  | none => rw [e] at q; exact q
  | some z =>
    rw [e] at q
    cases z with
    | ok x s' =>
      intro w1 H1 y st R1 rx
      obtain ⟨w2, x2, s2, r2', h2⟩ := q w1 H1 y st R1 rx
      exact f w2 H1 s2 x2 y r2' h2
    | ex c g v s' => exact q
theorem TR.two {m1 : M α} {m2 : M γ} {k : α → γ → M ε} {r1 : W → Hp → α → β → Prop} {r2 : W → Hp → γ → δ → Prop} {r : W → Hp → ε → ζ → Prop} {Q : ζ → Hp → Prop} {P : β → δ → Hp → Prop} (mo : Mono r1)
    (h : TR a Φ (EL.bnd m1 fun u => EL.bnd m2 fun v => k u v) r σ H Q)
    (f : ∀ (w : W) (H : Hp) (s : S) (u : α) (v : γ) (x : β) (y : δ), r1 w H u x → r2 w H v y → Sat a Φ w σ H s (k u v) r Q → P x y H) :
    TR a Φ m1 r1 σ H (fun x H1 => TR a Φ m2 r2 σ H1 (fun y H2 => P x y H2)) := by
  refine TR.one h fun w H1 s u x rx h1 => ?_
  have q := Sat.bnd (r1 := r2) h1
  refine ⟨w, s, q.1, ?_⟩
  obtain ⟨R, q⟩ := q
  cases e : m2 Φ s with
  | none => rw [e] at q; exact q
  | some z =>
    rw [e] at q
    cases z with
    | ok v s' =>
      intro w1 H2 y st R1 ry
      obtain ⟨w2, v2, s2, st2, r2', h2⟩ := q w1 H2 y st R1 ry
      exact f w2 H2 s2 u v2 x y (mo st2 rx) r2' h2
    | ex c g v s' => exact q
/-- the end of a chain: a function of values -/
theorem Sat.fin {o : Option α} {rel : W → Hp → α → β → Prop} {Q : β → Hp → Prop} (h : Sat a Φ w σ H s (EL.ofO o) rel Q) : ∃ x, o = some x ∧ Rel a w s.env s.hp σ H ∧ Out a w σ H s rel x Q := by
  obtain ⟨x, e, q⟩ := Sat.ofO h
  exact ⟨x, e, h.1, q⟩
theorem Sat.lk {g : S → Option α} {rel : W → Hp → α → β → Prop} {Q : β → Hp → Prop} (h : Sat a Φ w σ H s (look' g) rel Q) : ∃ x, g s = some x ∧ Rel a w s.env s.hp σ H ∧ Out a w σ H s rel x Q := by
  obtain ⟨R, h⟩ := h
  unfold look' at h
  cases e : g s with
  | none => rw [e] at h; exact h.elim
  | some x => rw [e] at h; exact ⟨x, rfl, R, h⟩
end

/-! ### E's words -/
def eC (u : U) : M U := ret u
def eBop (o : BOp) (m1 m2 : M U) : M U := bnd m1 fun u => bnd m2 fun v => ofO (bop o u v)
def eCop (o : COp) (m1 m2 : M U) : M U := bnd m1 fun u => bnd m2 fun v => ofO ((cop o u v).map U.bl)
def eMem (neg : Bool) (m1 : M U) (m2 : M Hd) : M U := bnd m1 fun u => bnd m2 fun h => look' fun s => (memU s u h).map fun b => U.bl (if neg = true then !b else b)
def eGet (m1 : M Hd) (m2 : M U) : M U := bnd m1 fun h => bnd m2 fun i => look' fun s => getU s h i
/-- a test of a truth value -/
def tV (m : M U) : M Bool := bnd m fun u => match u with
  | .bl b => ret b
  | _ => fail
def tNot' (m : M Bool) : M Bool := bnd m fun b => ret (!b)
def tAnd' (m1 m2 : M Bool) : M Bool := bnd m1 fun b => if b = true then m2 else ret false
def tOr' (m1 m2 : M Bool) : M Bool := bnd m1 fun b => if b = true then ret true else m2
def eAnd (m1 m2 : M U) : M U := bnd m1 fun u => match u with
  | .bl true => m2
  | .bl false => ret (.bl false)
  | _ => fail
def eOr (m1 m2 : M U) : M U := bnd m1 fun u => match u with
  | .bl true => ret (.bl true)
  | .bl false => m2
  | _ => fail
def eNot (m1 : M U) : M U := bnd m1 fun u => match u with
  | .bl b => ret (.bl (!b))
  | _ => fail
def eIf (t : M Bool) (m1 m2 : M U) : M U := bnd t fun b => if b = true then m1 else m2
def aNil : M (List U) := ret []
def aCons (m : M U) (ms : M (List U)) : M (List U) := bnd m fun u => bnd ms fun us => ret (u :: us)
def eTup (ms : M (List U)) : M U := bnd ms fun us => ofO (if us.length ≤ line then some (.tup us) else none)
def eLst (ms : M (List U)) : M U := bnd ms fun us => ofO (if us.length ≤ line then some (.lst us) else none)

section
variable {a : Act} {X : Cx} {Φ : Phi} {e e1 e2 e3 : Expr} {es : List Expr} {m m1 m2 m3 : M U} {mh : M Hd} {t t1 t2 : M Bool} {ms : M (List U)} {pos : Pos}
theorem se_int {i : Int} {j : Nat} : SE X a Φ (.Constant (.int i) j pos) (eC (.int i)) := PE.imp (t := tC (.int i)) pe_int fun _ _ _ ⟨_, _, R, h⟩ => Out.now h R (.int i)
theorem se_bl {b : Bool} {j : Nat} : SE X a Φ (.Constant (.bool b) j pos) (eC (.bl b)) := PE.imp (t := tC (.bl b)) pe_bl fun _ _ _ ⟨_, _, R, h⟩ => Out.now h R (.bl b)
theorem se_non {j : Nat} : SE X a Φ (.Constant .none j pos) (eC .non) := PE.imp (t := tC .non) pe_non fun _ _ _ ⟨_, _, R, h⟩ => Out.now h R .non
theorem se_str {x : Str} {j : Nat} : SE X a Φ (.Constant (.str x) j pos) (eC (.str x)) := PE.imp (t := tC (.str x)) pe_str fun _ _ _ ⟨_, _, R, h⟩ => Out.now h R (.str x)
theorem se_glob {x : Str} {i : Int} {u : Value} (hg : Gl X x) (hm : X.mg x = some u) (r : RelV (.int i) u) (hd : (x == ("__debug__" : Str)) = false) : SE X a Φ (.Name x pos) (eC (.int i)) :=
  PE.imp (t := tC (.int i)) (pe_glob hg hm r hd) fun _ _ _ ⟨_, _, R, h⟩ => Out.now h R (.int i)
theorem se_bop (hK : X.K = a.K) (o : BOp) (h1 : SE X a Φ e1 m1) (h2 : SE X a Φ e2 m2) : SE X a Φ (.BinOp e1 (opOf o) e2 pos) (eBop o m1 m2) :=
  PE.imp (pe_op (op_bop o) h1 h2) fun σ H Q h => TR.two (monoU a) h fun w H s u v x y rx ry q => by
    obtain ⟨z, e, R, k⟩ := Sat.fin q
    rw [hK]
    exact bop_spec R rx ry e k
theorem se_cop (hK : X.K = a.K) (hu : X.A.units + 65 < cLine) (o : COp) (h1 : SE X a Φ e1 m1) (h2 : SE X a Φ e2 m2) : SE X a Φ (.Compare e1 [copOf o] [e2] pos) (eCop o m1 m2) :=
  PE.imp (pe_cmpR (op_cop (by omega) o) h1 h2 (nobehind e2 (by cases o <;> decide) (by cases o <;> decide))) fun σ H Q h => TR.two (monoU a) h fun w H s u v x y rx ry q => by
    obtain ⟨z, e, R, k⟩ := Sat.fin q
    rw [hK]
    cases q : cop o u v with
    | none => rw [q] at e; cases e
    | some b => rw [q] at e; cases e; exact cop_spec rx ry q (Out.now k R (.bl b))
theorem se_mem (hK : X.K = a.K) (hu : X.A.units + 65 < cLine) (neg : Bool) (h1 : SE X a Φ e1 m1) (h2 : SH X a Φ e2 mh) (hb : behindInMarks (inOp neg) e2 = false) : SE X a Φ (.Compare e1 [inOp neg] [e2] pos) (eMem neg m1 mh) :=
  PE.imp (pe_cmpR (op_mem hu neg) h1 h2 hb) fun σ H Q h => TR.two (monoU a) h fun w H s u v x y rx ry q => by
    obtain ⟨z, e, R, k⟩ := Sat.lk q
    rw [hK]
    cases q : memU s u v with
    | none => rw [q] at e; cases e
    | some b => rw [q] at e; cases e; exact mem_spec R rx ry q (Out.now k R (.bl _))
theorem se_get (hK : X.K = a.K) (hu : X.A.units + 65 < cLine) (h1 : SH X a Φ e1 mh) (h2 : SE X a Φ e2 m2) (hs : PlainIx e2) : SE X a Φ (.Subscript e1 e2 pos) (eGet mh m2) :=
  PE.imp (pe_ix (ix_get (by omega)) h1 h2 hs) fun σ H Q h => TR.two (monoH a σ) h fun w H s u v x y rx ry q => by
    obtain ⟨z, e, R, k⟩ := Sat.lk q
    rw [hK]
    exact get_spec R rx ry e fun v r => Out.now k R r
theorem sh_of (h : SE X a Φ e m) : SH X a Φ e (hdl m) :=
  PE.imp h fun σ H Q q => TR.one q fun w H s u x rx k => Out.now (Sat.ret k) k.1 rx
/-! ### truth -/
theorem st_val (h : SE X a Φ e m) (he : ∀ whole, isTrue e X.env whole = (do let v ← whole; standAt e.pos; holding [v] (truthy v))) : STt X a Φ e (tV m) :=
  PT.imp (pt_val h he) fun σ H Q q => TR.one q fun w H s u x rx k => by
    cases u <;> first | exact k.2.elim | skip
    cases rx
    exact ⟨_, rfl, Out.now (Sat.ret k) k.1 rfl⟩
theorem st_not (h : STt X a Φ e t) : STt X a Φ (.UnaryOp .Not e pos) (tNot' t) :=
  PT.imp (pt_not h) fun σ H Q q => TR.one (r1 := relB) q fun w H s b c rx k => by
    have e1 : b = c := rx
    subst e1
    exact Out.now (Sat.ret k) k.1 rfl
theorem se_not (h : SE X a Φ e m) : SE X a Φ (.UnaryOp .Not e pos) (eNot m) :=
  PE.imp (pe_not h) fun σ H Q q => TR.one q fun w H s u x rx k => by
    cases u <;> first | exact k.2.elim | skip
    cases rx
    exact ⟨_, rfl, Out.now (Sat.ret k) k.1 (.bl _)⟩
theorem se_and1 {op : BoolOp} (h : SE X a Φ e m) : SE X a Φ (.BoolOp op [e] pos) m := pe_one h
theorem se_and (h1 : SE X a Φ e1 m1) (h2 : SE X a Φ (.BoolOp .And (e2 :: es) pos) m2) : SE X a Φ (.BoolOp .And (e1 :: e2 :: es) pos) (eAnd m1 m2) :=
  PE.imp (pe_and h1 h2) fun σ H Q q => TR.one q fun w H s u x rx k => by
    cases u <;> first | exact k.2.elim | skip
    rename_i b
    cases rx
    refine ⟨b, rfl, ?_⟩
    cases b with
    | true => rw [if_pos rfl]; exact ⟨w, s, k⟩
    | false => rw [if_neg Bool.false_ne_true]; exact Out.now (Sat.ret k) k.1 (.bl _)
theorem se_or (h1 : SE X a Φ e1 m1) (h2 : SE X a Φ (.BoolOp .Or (e2 :: es) pos) m2) : SE X a Φ (.BoolOp .Or (e1 :: e2 :: es) pos) (eOr m1 m2) :=
  PE.imp (pe_or h1 h2) fun σ H Q q => TR.one q fun w H s u x rx k => by
    cases u <;> first | exact k.2.elim | skip
    rename_i b
    cases rx
    refine ⟨b, rfl, ?_⟩
    cases b with
    | true => rw [if_pos rfl]; exact Out.now (Sat.ret k) k.1 (.bl _)
    | false => rw [if_neg Bool.false_ne_true]; exact ⟨w, s, k⟩
/-- tests of and, or: whatever their whole is -/
def SW (X : Cx) (a : Act) (Φ : Phi) (e : Expr) (m : M Bool) : Prop := PW X e (TR a Φ m relB)
theorem sw_pt (h : SW X a Φ e t) : STt X a Φ e t := PW.pt h
theorem sw_and1 (h : STt X a Φ e t) : SW X a Φ (.BoolOp .And [e] pos) t := pw_and1 h
theorem sw_or1 (h : STt X a Φ e t) : SW X a Φ (.BoolOp .Or [e] pos) t := pw_or1 h
theorem sw_and (h1 : STt X a Φ e1 t1) (h2 : SW X a Φ (.BoolOp .And (e2 :: es) pos) t2) : SW X a Φ (.BoolOp .And (e1 :: e2 :: es) pos) (tAnd' t1 t2) :=
  PW.imp (pw_and h1 h2) fun σ H Q q => TR.one (r1 := relB) q fun w H s b c rx k => by
    have e1 : b = c := rx
    subst e1
    cases b with
    | true => rw [if_pos rfl]; exact ⟨w, s, k⟩
    | false => rw [if_neg Bool.false_ne_true]; exact Out.now (Sat.ret k) k.1 rfl
theorem sw_or (h1 : STt X a Φ e1 t1) (h2 : SW X a Φ (.BoolOp .Or (e2 :: es) pos) t2) : SW X a Φ (.BoolOp .Or (e1 :: e2 :: es) pos) (tOr' t1 t2) :=
  PW.imp (pw_or h1 h2) fun σ H Q q => TR.one (r1 := relB) q fun w H s b c rx k => by
    have e1 : b = c := rx
    subst e1
    cases b with
    | true => rw [if_pos rfl]; exact Out.now (Sat.ret k) k.1 rfl
    | false => rw [if_neg Bool.false_ne_true]; exact ⟨w, s, k⟩
theorem se_if (h : STt X a Φ e t) (h1 : SE X a Φ e1 m1) (h2 : SE X a Φ e2 m2) : SE X a Φ (.IfExp e e1 e2 pos) (eIf t m1 m2) :=
  PE.imp (pe_ifExp h h1 h2) fun σ H Q q => TR.one (r1 := relB) q fun w H s b c rx k => by
    have e1 : b = c := rx
    subst e1
    cases b with
    | true => rw [if_pos rfl]; exact ⟨w, s, k⟩
    | false => rw [if_neg Bool.false_ne_true]; exact ⟨w, s, k⟩
/-! ### arguments, displays -/
theorem sa_nil : SA X a Φ [] aNil := PA.imp pa_nil fun σ H Q ⟨w, s, R, h⟩ => Out.now h R .nil
theorem sa_cons (h : SE X a Φ e m) (hr : SA X a Φ es ms) (hs : starEach (e :: es) X.env = (false, eval e X.env) :: starEach es X.env) : SA X a Φ (e :: es) (aCons m ms) :=
  PA.imp (pa_cons h hr hs) fun σ H Q q => TR.two (monoU a) q fun w H s u v x y rx ry k => Out.now (Sat.ret k) k.1 (.cons rx ry)
theorem se_tup {x1 : Nat} (h : SA X a Φ es ms) : SE X a Φ (.Tuple es x1 pos) (eTup ms) :=
  PE.imp (pe_tup h) fun σ H Q q => TR.one q fun w H s us vs r k => by
    obtain ⟨z, e, R, k⟩ := Sat.fin k
    by_cases hl : us.length ≤ line
    · rw [if_pos hl] at e; cases e
      exact ⟨by rw [← r.length]; exact hl, fun p hp => k _ _ _ (Stp.new R hp) (R.new hp) (.tup (.inr rfl) upd_same (r.mono (Stp.new R hp)))⟩
    · rw [if_neg hl] at e; cases e
theorem se_lst (h : SA X a Φ es ms) : SE X a Φ (.List es pos) (eLst ms) :=
  PE.imp (pe_lst h) fun σ H Q q => TR.one q fun w H s us vs r k => by
    obtain ⟨z, e, R, k⟩ := Sat.fin k
    by_cases hl : us.length ≤ line
    · rw [if_pos hl] at e; cases e
      exact ⟨by rw [← r.length]; exact hl, fun p hp => k _ _ _ (Stp.new R hp) (R.new hp) (.lst (.inr rfl) upd_same (r.mono (Stp.new R hp)))⟩
    · rw [if_neg hl] at e; cases e
end
end EL
set_option Elab.async false
set_option linter.all false
set_option maxRecDepth 100000
/-! EC5: calls of the text's defs and of built-ins. -/
namespace EL
open PySem PySem.Spec PyProof.Rows L2

/-- a call by what the table says -/
def callM (q : Str) (us : List U) : M U := fun Φ s => match Φ q us s.hp with
  | none => none
  | some (.ok u hp) => some (.ok u ⟨s.env, hp⟩)
  | some (.ex c f v hp) => some (.ex c f v ⟨s.env, hp⟩)
def entry (K : PySem.W.Frag) (cls : Str → Addr) (w : W) (H : Hp) (E : XK) : Act := ⟨K, cls, w.F, w.ρ, H, fun c d _ H' => E c d H'⟩
/-- what the def q, of np parameters, promises -/
def spE (K : PySem.W.Frag) (cls : Str → Addr) (Φ : Phi) (q : Str) (np : Nat) : Sp := fun vs H Q E =>
  vs.length = np ∧ ∃ (w : W) (hp : List EO) (us : List U), RUs K cls w H us vs ∧ Sat (entry K cls w H E) Φ w [] H ⟨[], hp⟩ (callM q us) (relU (entry K cls w H E)) Q

section
variable {a : Act} {w w' : W} {env : List SV} {hp hp' : List EO} {σ : L2.St} {H H' : Hp} {E : XK}
theorem Rel.enter (R : Rel a w env hp σ H) : Rel (entry a.K a.cls w H E) w [] hp [] H where
  len := rfl
  slot := fun i s e => by simp at e
  own := fun i s p e => by simp at e
  apart := fun i j s t p e => by simp at e
  clen := R.clen
  cnd := R.cnd
  cell := R.cell
  cellF := R.cellF
  cell0 := fun p hp => .inl hp
  pre := fun _ _ h => h
  frame := fun _ _ h _ => h
  frz := R.frz
  F0 := fun _ h => .inl h
  Fpre := fun _ h => h
theorem Rel.back (R : Rel a w env hp σ H) (R' : Rel (entry a.K a.cls w H E) w' [] hp' [] H') (st : Stp w H w' H') : Rel a w' env hp' σ H' := by
  have keep : ∀ p, H p ≠ none → p ∉ w.ρ → H' p = H p := fun p hn hm => by
    cases e : H p with
    | none => exact absurd e hn
    | some o => exact R'.frame p o e hm
  refine ⟨R.len, fun i s e => (R.slot i s e).mono st fun ho p hq => ?_, fun i s p e ho hq => ?_, R.apart, R'.clen, R'.cnd, R'.cell, R'.cellF, fun p hp => ?_, fun i p h => R'.pre i p (R.pre i p h), fun x o hx hm => ?_, R'.frz, fun x hx => ?_, fun x hx => R'.Fpre x (R.Fpre x hx)⟩
  · obtain ⟨p', h1, h2⟩ := R.slot_there e ho
    rw [h1] at hq; cases hq
    exact keep p h2 (R.own i s p e ho h1).2.1
  · obtain ⟨p', h1, h2⟩ := R.slot_there e ho
    rw [h1] at hq; cases hq
    obtain ⟨o1, o2, o3⟩ := R.own i s p e ho h1
    refine ⟨fun z => ?_, fun z => ?_, o3⟩
    · rcases R'.F0 p z with z | z
      · exact o1 z
      · exact h2 z
    · rcases R'.cell0 p z with z | z
      · exact o2 z
      · exact h2 z
  · rcases R'.cell0 p hp with z | z
    · exact R.cell0 p z
    · exact .inr (R.fresh0 z)
  · have q := R.frame x o hx hm
    have nm : x ∉ w.ρ := fun z => by
      rcases R.cell0 x z with z | z
      · exact hm z
      · rw [hx] at z; cases z
    exact R'.frame x o q nm
  · rcases R'.F0 x hx with z | z
    · exact R.F0 x z
    · exact .inr (R.fresh0 z)
theorem Rel.drop (R : Rel a w env hp σ H) : Rel a w [] hp [] H where
  len := rfl
  slot := fun i s e => by simp at e
  own := fun i s p e => by simp at e
  apart := fun i j s t p e => by simp at e
  clen := R.clen
  cnd := R.cnd
  cell := R.cell
  cellF := R.cellF
  cell0 := R.cell0
  pre := R.pre
  frame := R.frame
  frz := R.frz
  F0 := R.F0
  Fpre := R.Fpre
/-- the caller's wish gives the callee's -/
theorem call_spec {Φ : Phi} {s : S} {q : Str} {us : List U} {vs : List V} {Q : VK} (r : RUs a.K a.cls w H us vs) (h : Sat a Φ w σ H s (callM q us) (relU a) Q) : spE a.K a.cls Φ q vs.length vs H Q (fun c d H' => a.E c d σ H') := by
  obtain ⟨R, h⟩ := h
  refine ⟨rfl, w, s.hp, us, r, R.enter, ?_⟩
  unfold callM at h ⊢
  cases e : Φ q us s.hp with
  | none => rw [e] at h; exact h
  | some z =>
    rw [e] at h
    cases z with
    | ok u hp' => exact fun w' H' y st R' ry => h w' H' y st (R.back R' st) ry
    | ex c f v hp' => exact fun w' H' d y σ' st R' ry hd => h w' H' d y σ st (R.back R'.drop st) ry hd
end

def eCall (q : Str) (np : Nat) (ms : M (List U)) : M U := bnd ms fun us => if us.length = np then callM q us else fail
/-- built-ins of one sequence -/
def eLen (mh : M Hd) : M U := bnd mh fun h => look' fun s => lenU s h
def tupleU (s : S) (h : Hd) : Option U := match seqOf s h with
  | some (_, us) => some (.tup us)
  | none => none
def listU (s : S) (h : Hd) : Option U := match seqOf s h with
  | some (_, us) => some (.lst us)
  | none => none
def eTupleOf (mh : M Hd) : M U := bnd mh fun h => look' fun s => tupleU s h
def eListOf (mh : M Hd) : M U := bnd mh fun h => look' fun s => listU s h
def int1 : U → Option U
  | .int i => some (.int i)
  | .bl b => some (.int (if b = true then 1 else 0))
  | _ => none
def eInt1 (m : M U) : M U := bnd m fun u => ofO (int1 u)
def mm2 (lt : Bool) : List U → Option U
  | [.int i, .int j] => some (.int (if lt = true then (if j < i then j else i) else if j > i then j else i))
  | _ => none
def eMM2 (lt : Bool) (ms : M (List U)) : M U := bnd ms fun us => ofO (mm2 lt us)
/-- sorted -/
def dOf (u : U) : PyData := (toD u).getD .none
def leU (u v : U) : Bool := PySem.W.dataLe false dOf u v
def isTup1 : PyData → Bool
  | .tuple (_ :: _) => true
  | _ => false
def noTup : PyData → Bool
  | .none => false
  | .tuple _ => false
  | _ => true
def sortOk (us : List U) : Bool := us.all (fun u => (toS u).isSome) && us.all (fun u => us.all fun v => PySem.W.alike (dOf u) (dOf v)) && (us.all (fun u => isTup1 (dOf u)) || us.all fun u => noTup (dOf u)) && decide (us.length ≤ line)
def sortU (us : List U) : Option U := if sortOk us = true then some (.lst (us.mergeSort leU)) else none
def sortedU (s : S) (h : Hd) : Option U := match seqOf s h with
  | some (false, us) => sortU us
  | _ => none
def eSorted (mh : M Hd) : M U := bnd mh fun h => look' fun s => sortedU s h

theorem CallR.or {X : Cx} {f : Value} {r r' : List V → Hp → VK → Prop} (h : CallR X f r) (h' : CallR X f r') : CallR X f (fun x H Q => r x H Q ∨ r' x H Q) := by
  intro pins s σ H xs us Q I rx q
  rcases q with q | q
  · exact h pins s σ H xs us Q I rx q
  · exact h' pins s σ H xs us Q I rx q
def rLenT2 : List V → Hp → VK → Prop := fun xs H Q => ∃ (p : Addr) (kvs : List (List L2.Key × V)), xs = [.ref p] ∧ Rd H p (.dT kvs) ∧ Q (.int ((kvs.length : Nat) : Int)) H
theorem call_lenT2 {X : Cx} : CallR X (.builtin "len") rLenT2 := by
  intro pins s σ H xs us Q I r h
  obtain ⟨p, kvs, rfl, hp, q⟩ := h
  obtain ⟨u, rfl, rx⟩ := vals1 r
  obtain rfl : u = .ref p := rx
  obtain ⟨z, hd, ys, rel, dd⟩ := dt_rd I.hok hp
  have hl : kvs.length = ys.length := Paired.length rel
  refine call_len_dictH hd dd (by rw [← hl]; rw [sizeLine_eq] at z; omega) ?_
  rw [← hl]
  exact ⟨.int ((kvs.length : Nat) : Int), H, I.tok _, ⟨_, rfl⟩, q⟩
theorem call_lenA {X : Cx} : CallR X (.builtin "len") (fun xs H Q => (∃ p ys, xs = [V.ref p] ∧ (SqL X.K H p ys ∨ SqT X.K H p ys) ∧ Q (.int ys.length) H) ∨ rLenD xs H Q ∨ rLenT2 xs H Q) :=
  CallR.or call_len_seq (CallR.or call_lenK call_lenT2)

/-! ### sorted, over data -/
theorem dOf_some {u : U} (h : (toS u).isSome = true) : toD u = some (dOf u) ∧ SeqAt.shaped (dOf u) = true := by
  cases e : toS u with
  | none => rw [e] at h; cases h
  | some d =>
    obtain ⟨h1, h2⟩ := toS_some e
    unfold dOf
    rw [h1]
    exact ⟨rfl, h2⟩
def rSortD (K : PySem.W.Frag) : List V → Hp → VK → Prop := fun xs H Q => ∃ (p : Addr) (bs : List (U × V)), xs = [.ref p] ∧ SqL K H p (bs.map (·.2)) ∧ (∀ b ∈ bs, Dp K H b.2 (dOf b.1) ∧ SeqAt.shaped (dOf b.1) = true) ∧
  PySem.W.AllAlike (bs.map fun b => dOf b.1) ∧ PySem.W.Sortable (bs.map fun b => dOf b.1) ∧ ∀ l, H l = none → Q (.ref l) (upd H l (.lst ((bs.mergeSort fun b c => leU b.1 c.1).map (·.2))))
theorem each_of {α β : Type} {R : α → β → Prop} {T : α → β → Prop} : ∀ {vs : List α} {bs : List β}, PySem.W.EachIs R vs bs → (∀ v b, b ∈ bs → R v b → T v b) → PySem.W.EachIs T vs bs
  | _, _, .nil, _ => .nil
  | _, _, .cons r t, f => .cons (f _ _ List.mem_cons_self r) (each_of t fun v b hb => f v b (List.mem_cons_of_mem _ hb))
theorem each_vals {bs : List (U × V)} : ∀ {vs : List Value}, Vals (bs.map (·.2)) vs → PySem.W.EachIs (fun v b => RelV b.2 v) vs bs := by
  induction bs with
  | nil => intro vs r; cases r; exact .nil
  | cons b bs ih => intro vs r; cases r with | cons r t => exact .cons r (ih t)
theorem vals_each {bs : List (U × V)} : ∀ {vs : List Value}, PySem.W.EachIs (fun v b => RelV b.2 v) vs bs → Vals (bs.map (·.2)) vs := by
  induction bs with
  | nil => intro vs r; cases r; exact .nil
  | cons b bs ih => intro vs r; cases r with | cons r t => exact .cons r (ih t)
theorem cr_sortD {X : Cx} (hu : X.A.units + 70 < cLine) : CallR X (.builtin "sorted") (rSortD X.K) := by
  intro pins s σ H xs us Q I r h
  obtain ⟨p, bs, rfl, hs, hd, al, so, q⟩ := h
  obtain ⟨u, rfl, rx⟩ := vals1 r
  obtain rfl : u = Value.ref p := rx
  obtain ⟨its, rv, hl, hz⟩ := I.list hs
  have ev := each_vals rv
  rw [List.length_map] at hz
  refine PySem.W.sorted_data (enc := fun b : U × V => dOf b.1) (R := fun v b => RelV b.2 v) hl.isList ev (each_of ev fun v b hb r => Dp.reads I _ b.2 v (hd b hb).1 r) al so hz (fun b hb => ?_) fun out ho hout => ?_
  · have h1 := SeqAt.depth_of_shaped (hd b hb).2
    show X.A.units + 2 + (dOf b.1).depth < cLine
    omega
  · obtain ⟨c, hc⟩ := sortedAll_at s.heap its out.toArray
    refine ⟨.ref (s.heap.objs.size + 1), _, I.laid (t' := s.toks) (o := .lst ((bs.mergeSort fun b c => leU b.1 c.1).map (·.2))) (fun b u e => sortedAll_old e) (Nat.le_succ _) ?_, rfl, q _ (I.hok.fresh (Nat.le_succ _))⟩
    refine ⟨?_, out, c, vals_each hout, hc⟩
    rw [List.length_map, List.length_mergeSort]
    exact hz

section
variable {a : Act} {X : Cx} {Φ : Phi} {e e1 : Expr} {es : List Expr} {ms : M (List U)} {m : M U} {mh : M Hd} {p pos : Pos} {x q : Str} {np k : Nat} {f : Addr} {fd : FuncData} {ps : List Str} {w : W} {σ : L2.St} {H : Hp} {s : S}
theorem se_call (hK : X.K = a.K) (F : FnOk X.prog X.w X.K X.mg X.base (L2.CX X.prog X.w) k f fd ps (spE X.K a.cls Φ q np)) (hr : Room k X.A) (hg : Gl X x) (hm : X.mg x = some (.ref f)) (hk : PySem.W.keepIn X.K (.ref f) = true) (hb : Binds X.K fd ps [])
    (tk : Takes X a.E) (ha : SA X a Φ (e :: es) ms) (hdb : (x == ("__debug__" : Str)) = false) (he : starEach (e :: es) X.env = (false, eval e X.env) :: starEach es X.env)
    (hpl : (backTo pos (starEach es X.env)).any (·.1) = false) : SE X a Φ (.Call (.Name x p) (e :: es) [] pos) (eCall q np ms) :=
  PE.imp (pe_callS F hr hg hm hk hb (fun σ => passAt tk σ) ha hdb he hpl) fun σ H Q h => TR.one h fun w H s us vs r k => by
    by_cases hl : us.length = np
    · rw [if_pos hl] at k
      have c := call_spec r k
      rw [← r.length, hl, ← hK] at c
      exact c
    · rw [if_neg hl] at k; exact k.2.elim
theorem sa_one {mh : M Hd} (h : SH X a Φ e mh) (hs : starEach [e] X.env = (false, eval e X.env) :: starEach [] X.env) : PA X [e] (tCons (fun σ H Q => TR a Φ mh (HdOk a σ) σ H Q) tNil) := pa_cons h pa_nil hs
theorem se_len (hg : Gl X "len") (hm : X.mg "len" = none) (h : SH X a Φ e mh) (hK : X.K = a.K) (hs : starEach [e] X.env = (false, eval e X.env) :: starEach [] X.env) : SE X a Φ (.Call (.Name "len" p) [e] [] pos) (eLen mh) :=
  PE.imp (pe_callB (r := fun xs H Q => (∃ p ys, xs = [V.ref p] ∧ (SqL X.K H p ys ∨ SqT X.K H p ys) ∧ Q (.int ys.length) H) ∨ rLenD xs H Q ∨ rLenT2 xs H Q) call_lenA hg hm PySem.boot_len (sa_one h hs) (by decide) (by decide) hs rfl) fun σ H Q h => TR.one h fun w H s u x rx q => by
    obtain ⟨z, e, R, k⟩ := Sat.lk q
    unfold lenU at e
    split at e
    · rename_i t us e1
      cases e
      obtain ⟨p, vs, rfl, r, hs⟩ := seq_spec R rx e1
      rw [hK]
      exact .inl ⟨p, vs, rfl, hs.or, by rw [← r.length]; exact Out.now k R (.int _)⟩
    · split at e
      · rename_i t kvs e2
        cases e
        obtain ⟨p, rfl, d⟩ := dic_spec R rx e2
        cases d with
        | k h r => exact .inr (.inl ⟨p, _, rfl, h, by rw [← r.length]; exact Out.now k R (.int _)⟩)
        | t h r => exact .inr (.inr ⟨p, _, rfl, h, by rw [← r.length]; exact Out.now k R (.int _)⟩)
      · cases e
theorem se_tupleOf (hg : Gl X "tuple") (hm : X.mg "tuple" = none) (h : SH X a Φ e mh) (hK : X.K = a.K) (hs : starEach [e] X.env = (false, eval e X.env) :: starEach [] X.env) : SE X a Φ (.Call (.Name "tuple" p) [e] [] pos) (eTupleOf mh) :=
  PE.imp (pe_callTy call_tuple_of hg hm (by decide +kernel) (sa_one h hs) (by decide) (by decide) hs rfl) fun σ H Q h => TR.one h fun w H s u x rx q => by
    obtain ⟨z, e, R, k⟩ := Sat.lk q
    unfold tupleU at e
    split at e
    · rename_i t us e1
      cases e
      obtain ⟨p, vs, rfl, r, hs⟩ := seq_spec R rx e1
      rw [hK]
      refine ⟨p, vs, rfl, ?_⟩
      cases t with
      | false => exact .inl ⟨hs, fun l hl => k _ _ _ (Stp.new R hl) (R.new hl) (.tup (.inr rfl) upd_same (r.mono (Stp.new R hl)))⟩
      | true =>
        refine .inr ⟨hs, Out.now k R ?_⟩
        obtain ⟨us', e2⟩ : ∃ us', u = .u (.tup us') := by
          cases u with
          | sl i => simp only [seqOf] at e1; split at e1 <;> cases e1
          | u u =>
            cases u <;> simp only [seqOf] at e1 <;> first | (cases e1; done) | exact ⟨_, rfl⟩ | skip
            split at e1 <;> cases e1
        subst e2
        cases e1
        exact rx
    · cases e
theorem se_listOf (hg : Gl X "list") (hm : X.mg "list" = none) (h : SH X a Φ e mh) (hK : X.K = a.K) (hs : starEach [e] X.env = (false, eval e X.env) :: starEach [] X.env) : SE X a Φ (.Call (.Name "list" p) [e] [] pos) (eListOf mh) :=
  PE.imp (pe_callTy call_list_of hg hm (by decide +kernel) (sa_one h hs) (by decide) (by decide) hs rfl) fun σ H Q h => TR.one h fun w H s u x rx q => by
    obtain ⟨z, e, R, k⟩ := Sat.lk q
    unfold listU at e
    split at e
    · rename_i t us e1
      cases e
      obtain ⟨p, vs, rfl, r, hs⟩ := seq_spec R rx e1
      rw [hK]
      exact ⟨p, vs, rfl, hs.or, fun l hl => k _ _ _ (Stp.new R hl) (R.new hl) (.lst (.inr rfl) upd_same (r.mono (Stp.new R hl)))⟩
    · cases e
theorem se_int1 (hg : Gl X "int") (hm : X.mg "int" = none) (h : SE X a Φ e m) (hs : starEach [e] X.env = (false, eval e X.env) :: starEach [] X.env) : SE X a Φ (.Call (.Name "int" p) [e] [] pos) (eInt1 m) :=
  PE.imp (pe_callTy call_int1 hg hm (by decide +kernel) (pa_cons h pa_nil hs) (by decide) (by decide) hs rfl) fun σ H Q h => TR.one h fun w H s u x rx q => by
    obtain ⟨z, e, R, k⟩ := Sat.fin q
    cases u <;> simp only [int1] at e <;> first | (cases e; done) | skip
    · rename_i b
      cases rx; cases e
      exact .inr ⟨b, rfl, Out.now k R (.int _)⟩
    · cases rx; cases e
      exact .inl ⟨_, rfl, Out.now k R (.int _)⟩
theorem mm2_some {lt : Bool} {us : List U} {z : U} (e : mm2 lt us = some z) : ∃ i j, us = [.int i, .int j] ∧ z = .int (if lt = true then (if j < i then j else i) else if j > i then j else i) := by
  unfold mm2 at e
  split at e
  · cases e; exact ⟨_, _, rfl, rfl⟩
  · cases e
theorem se_min2 (hc : X.calm = true) (hg : Gl X "min") (hm : X.mg "min" = none) (h : SA X a Φ (e :: e1 :: es) ms) (hs : starEach (e :: e1 :: es) X.env = (false, eval e X.env) :: starEach (e1 :: es) X.env) (hpl : (backTo pos (starEach (e1 :: es) X.env)).any (·.1) = false) : SE X a Φ (.Call (.Name "min" p) (e :: e1 :: es) [] pos) (eMM2 true ms) :=
  PE.imp (pe_callB (call_min2 hc) hg hm (by decide +kernel) h (by decide) (by decide) hs hpl) fun σ H Q h => TR.one h fun w H s us vs r q => by
    obtain ⟨z, e, R, k⟩ := Sat.fin q
    obtain ⟨i, j, rfl, rfl⟩ := mm2_some e
    cases r with | cons r1 r => cases r with | cons r2 r => cases r; cases r1; cases r2; exact ⟨i, j, rfl, Out.now k R (.int _)⟩
theorem se_max2 (hc : X.calm = true) (hg : Gl X "max") (hm : X.mg "max" = none) (h : SA X a Φ (e :: e1 :: es) ms) (hs : starEach (e :: e1 :: es) X.env = (false, eval e X.env) :: starEach (e1 :: es) X.env) (hpl : (backTo pos (starEach (e1 :: es) X.env)).any (·.1) = false) : SE X a Φ (.Call (.Name "max" p) (e :: e1 :: es) [] pos) (eMM2 false ms) :=
  PE.imp (pe_callB (call_max2 hc) hg hm (by decide +kernel) h (by decide) (by decide) hs hpl) fun σ H Q h => TR.one h fun w H s us vs r q => by
    obtain ⟨z, e, R, k⟩ := Sat.fin q
    obtain ⟨i, j, rfl, rfl⟩ := mm2_some e
    cases r with | cons r1 r => cases r with | cons r2 r => cases r; cases r1; cases r2; exact ⟨i, j, rfl, Out.now k R (.int _)⟩
theorem sort_fst : ∀ (bs : List (U × V)), (bs.mergeSort fun b c => leU b.1 c.1).map (·.1) = (bs.map (·.1)).mergeSort leU := fun bs => PySem.W.sort_maps (fun b : U × V => b.1) fun _ _ _ _ => rfl
theorem RUs.zip {K : PySem.W.Frag} {cls : Str → Addr} : ∀ {us : List U} {vs : List V}, RUs K cls w H us vs → (us.zip vs).map (·.1) = us ∧ (us.zip vs).map (·.2) = vs ∧ ∀ b ∈ us.zip vs, RU K cls w H b.1 b.2
  | _, _, .nil => ⟨rfl, rfl, fun b hb => by simp at hb⟩
  | _, _, .cons r t => by
    obtain ⟨h1, h2, h3⟩ := RUs.zip t
    refine ⟨by simp [h1], by simp [h2], fun b hb => ?_⟩
    rcases List.mem_cons.mp hb with rfl | hb
    · exact r
    · exact h3 b hb
theorem RUs.of_pairs {K : PySem.W.Frag} {cls : Str → Addr} : ∀ {bs : List (U × V)}, (∀ b ∈ bs, RU K cls w H b.1 b.2) → RUs K cls w H (bs.map (·.1)) (bs.map (·.2))
  | [], _ => .nil
  | b :: bs, h => .cons (h b List.mem_cons_self) (RUs.of_pairs fun c hc => h c (List.mem_cons_of_mem _ hc))
theorem se_sorted (hu : X.A.units + 70 < cLine) (hg : Gl X "sorted") (hm : X.mg "sorted" = none) (h : SH X a Φ e mh) (hK : X.K = a.K) (hs : starEach [e] X.env = (false, eval e X.env) :: starEach [] X.env) : SE X a Φ (.Call (.Name "sorted" p) [e] [] pos) (eSorted mh) :=
  PE.imp (pe_callB (cr_sortD hu) hg hm (by decide +kernel) (sa_one h hs) (by decide) (by decide) hs rfl) fun σ H Q h => TR.one h fun w H s u x rx q => by
    obtain ⟨z, e, R, k⟩ := Sat.lk q
    unfold sortedU at e
    split at e
    · rename_i us e1
      obtain ⟨p, vs, rfl, r, hs⟩ := seq_spec R rx e1
      unfold sortU at e
      by_cases ho : sortOk us = true
      · rw [if_pos ho] at e; cases e
        unfold sortOk at ho
        simp only [Bool.and_eq_true, Bool.or_eq_true, List.all_eq_true, decide_eq_true_eq] at ho
        obtain ⟨⟨⟨h1, h2⟩, h3⟩, h4⟩ := ho
        obtain ⟨z1, z2, z3⟩ := r.zip
        have hm : ∀ b ∈ us.zip vs, b.1 ∈ us := fun b hb => (List.of_mem_zip hb).1
        have ee : (us.zip vs).map (fun b => dOf b.1) = us.map dOf := by
          have q := congrArg (List.map dOf) z1
          rw [List.map_map] at q
          exact q
        refine ⟨p, us.zip vs, rfl, by rw [z2, hK]; exact hs, fun b hb => ⟨?_, (dOf_some (h1 _ (hm b hb))).2⟩, ?_, ?_, fun l hl => ?_⟩
        · rw [hK]; exact (z3 b hb).dp (dOf_some (h1 _ (hm b hb))).1
        · rw [ee]
          intro d hd d' hd'
          obtain ⟨u, hu, rfl⟩ := List.mem_map.mp hd
          obtain ⟨u', hu', rfl⟩ := List.mem_map.mp hd'
          exact h2 u hu u' hu'
        · rw [ee]
          rcases h3 with h3 | h3
          · refine .inl fun d hd => ?_
            obtain ⟨u, hu, rfl⟩ := List.mem_map.mp hd
            have q := h3 u hu
            cases e : dOf u with
            | tuple xs =>
              cases xs with
              | nil => rw [e] at q; cases q
              | cons x r => exact ⟨x, r, rfl⟩
            | _ => rw [e] at q; cases q
          · refine .inr fun d hd => ?_
            obtain ⟨u, hu, rfl⟩ := List.mem_map.mp hd
            have q := h3 u hu
            exact ⟨fun z => (by rw [z] at q; cases q), fun xs z => (by rw [z] at q; cases q)⟩
        · refine k _ _ _ (Stp.new R hl) (R.new hl) (.lst (.inr rfl) upd_same ?_)
          have m1 : ∀ b ∈ (us.zip vs).mergeSort fun b c => leU b.1 c.1, RU a.K a.cls (w.more l) (upd H l (.lst (((us.zip vs).mergeSort fun b c => leU b.1 c.1).map (·.2)))) b.1 b.2 := fun b hb => (z3 b ((List.mergeSort_perm _ _).mem_iff.mp hb)).mono (Stp.new R hl)
          have m2 := RUs.of_pairs m1
          rw [sort_fst, z1] at m2
          exact m2
      · rw [if_neg ho] at e; cases e
    · cases e
end
end EL
set_option Elab.async false
set_option linter.all false
set_option maxRecDepth 100000
/-! EC6: fresh lists and dicts; statements; targets. -/
namespace EL
open PySem PySem.Spec PyProof.Rows L2

inductive Fl where
  | nx | rt (u : U) | bk | ct

section
variable {a : Act} {w : W} {env : List SV} {hp : List EO} {σ : L2.St} {H : Hp} {s : S} {p : Addr}

/-! ### slots are set -/
theorem set_other {α : Type} {l : List α} {i j : Nat} {x y : α} (hj : j ≠ i) (e : (l.set i x)[j]? = some y) : l[j]? = some y := by
  rw [List.getElem?_set_ne (Ne.symm hj)] at e; exact e
/-- a slot gets a value -/
theorem Rel.setV (R : Rel a w env hp σ H) {i : Nat} {u : U} {v : V} (r : RU a.K a.cls w H u v) : Rel a w (env.set i (.val u)) hp (σ.set i (some v)) H := by
  have key : ∀ {j : Nat} {t : SV}, (env.set i (.val u))[j]? = some t → isOwn t = true → j ≠ i ∧ env[j]? = some t := fun {j t} e h => by
    by_cases hj : j = i
    · subst hj
      have il : j < env.length := by have := (List.getElem?_eq_some_iff.mp e).1; rw [List.length_set] at this; exact this
      rw [List.getElem?_set_self il] at e; cases e; cases h
    · exact ⟨hj, set_other hj e⟩
  refine ⟨by rw [List.length_set, List.length_set]; exact R.len, fun j t e => ?_, fun j t q e h hq => ?_, fun j k t t' q e h hq e' h' hq' => ?_, R.clen, R.cnd, R.cell, R.cellF, R.cell0, R.pre, R.frame, R.frz, R.F0, R.Fpre⟩
  · by_cases hj : j = i
    · subst hj
      have il : j < env.length := by have := (List.getElem?_eq_some_iff.mp e).1; rw [List.length_set] at this; exact this
      rw [List.getElem?_set_self il] at e; cases e
      rw [List.getElem?_set_self (by rw [← R.len]; exact il)]
      exact ⟨v, rfl, r⟩
    · rw [List.getElem?_set_ne (Ne.symm hj)]
      exact R.slot j t (set_other hj e)
  · obtain ⟨hj, e1⟩ := key e h
    exact R.own j t q e1 h (set_other hj hq)
  · obtain ⟨hj, e1⟩ := key e h
    obtain ⟨hk, e2⟩ := key e' h'
    exact R.apart j k t t' q e1 h (set_other hj hq) e2 h' (set_other hk hq')
/-- a slot is emptied -/
theorem Rel.wipeV (R : Rel a w env hp σ H) {i : Nat} {v : Option V} : Rel a w (env.set i .no) hp (σ.set i v) H := by
  have key : ∀ {j : Nat} {t : SV}, (env.set i .no)[j]? = some t → isOwn t = true → j ≠ i ∧ env[j]? = some t := fun {j t} e h => by
    by_cases hj : j = i
    · subst hj
      have il : j < env.length := by have := (List.getElem?_eq_some_iff.mp e).1; rw [List.length_set] at this; exact this
      rw [List.getElem?_set_self il] at e; cases e; cases h
    · exact ⟨hj, set_other hj e⟩
  refine ⟨by rw [List.length_set, List.length_set]; exact R.len, fun j t e => ?_, fun j t q e h hq => ?_, fun j k t t' q e h hq e' h' hq' => ?_, R.clen, R.cnd, R.cell, R.cellF, R.cell0, R.pre, R.frame, R.frz, R.F0, R.Fpre⟩
  · by_cases hj : j = i
    · subst hj
      have il : j < env.length := by have := (List.getElem?_eq_some_iff.mp e).1; rw [List.length_set] at this; exact this
      rw [List.getElem?_set_self il] at e; cases e
      trivial
    · rw [List.getElem?_set_ne (Ne.symm hj)]
      exact R.slot j t (set_other hj e)
  · obtain ⟨hj, e1⟩ := key e h
    exact R.own j t q e1 h (set_other hj hq)
  · obtain ⟨hj, e1⟩ := key e h
    obtain ⟨hk, e2⟩ := key e' h'
    exact R.apart j k t t' q e1 h (set_other hj hq) e2 h' (set_other hk hq')

/-! ### a fresh object, not yet anybody's: the last slot of a longer row -/
def Pend (a : Act) (w : W) (env : List SV) (hp : List EO) (σ : L2.St) (H : Hp) (sv : SV) (p : Addr) : Prop :=
  isOwn sv = true ∧ Rel a w (env ++ [sv]) hp (σ ++ [some (.ref p)]) H
theorem app_last {α : Type} {l : List α} {x : α} : (l ++ [x])[l.length]? = some x := by simp
theorem app_old {α : Type} {l : List α} {x y : α} {i : Nat} (h : l[i]? = some y) : (l ++ [x])[i]? = some y := by
  have hl := (List.getElem?_eq_some_iff.mp h).1
  rw [List.getElem?_append_left hl]; exact h
theorem app_some {α : Type} {l : List α} {x y : α} {i : Nat} (h : (l ++ [x])[i]? = some y) : l[i]? = some y ∨ i = l.length ∧ y = x := by
  by_cases hl : i < l.length
  · rw [List.getElem?_append_left hl] at h; exact .inl h
  · rw [List.getElem?_append_right (by omega)] at h
    have : i - l.length = 0 := by
      cases q : i - l.length with
      | zero => rfl
      | succ n => rw [q] at h; simp at h
    rw [this] at h
    exact .inr ⟨by omega, by simpa using h.symm⟩
/-- without the last slot -/
theorem Rel.unpend {sv : SV} {v : Option V} (R : Rel a w (env ++ [sv]) hp (σ ++ [v]) H) : Rel a w env hp σ H := by
  have hl : env.length = σ.length := by have := R.len; simpa using this
  have hσ : ∀ {i : Nat} {t : SV}, env[i]? = some t → (σ ++ [v])[i]? = σ[i]? := fun {i t} e => by
    have := (List.getElem?_eq_some_iff.mp e).1
    rw [List.getElem?_append_left (by omega)]
  refine ⟨hl, fun i t e => ?_, fun i t q e h hq => ?_, fun i j t t' q e h hq e' h' hq' => ?_, R.clen, R.cnd, R.cell, R.cellF, R.cell0, R.pre, R.frame, R.frz, R.F0, R.Fpre⟩
  · have q := R.slot i t (app_old e)
    rw [hσ e] at q; exact q
  · exact R.own i t q (app_old e) h (app_old hq)
  · exact R.apart i j t t' q (app_old e) h (app_old hq) (app_old e') h' (app_old hq')
theorem Rel.slot_mono {s0 : SV} {x : Option (Option V)} {w' : W} {H' : Hp} (st : Stp w H w' H') (h : SlotOk a.K a.cls w H s0 x) (hk : isOwn s0 = true → ∀ q, x = some (some (.ref q)) → H' q = H q) : SlotOk a.K a.cls w' H' s0 x := SlotOk.mono st h hk
/-- a new object becomes pending -/
theorem Rel.pend (R : Rel a w env hp σ H) {sv : SV} {o : HO} (h : H p = none) (ho : isOwn sv = true) (hs : SlotOk a.K a.cls w (upd H p o) sv (some (some (.ref p)))) : Pend a w env hp σ (upd H p o) sv p ∧ Stp w H w (upd H p o) := by
  have ne : ∀ {x : Addr}, H x ≠ none → x ≠ p := fun hx z => hx (by rw [z]; exact h)
  have st : Stp w H w (upd H p o) := ⟨fun _ h => h, fun _ _ h => h, fun x hx => upd_ne (ne (R.frz x hx))⟩
  have own' : ∀ {i : Nat} {s : SV} {q : Addr}, env[i]? = some s → isOwn s = true → σ[i]? = some (some (.ref q)) → q ≠ p := fun {i s q} e h hq => by
    obtain ⟨q', h1, h2⟩ := R.slot_there e h
    rw [h1] at hq; cases hq
    exact ne h2
  have hl := R.len
  have old : ∀ {i : Nat} {s : SV}, env[i]? = some s → (σ ++ [some (V.ref p)])[i]? = σ[i]? := fun {i s} e => by
    have := (List.getElem?_eq_some_iff.mp e).1
    rw [List.getElem?_append_left (by omega)]
  have last : (σ ++ [some (V.ref p)])[env.length]? = some (some (.ref p)) := by rw [hl]; exact app_last
  refine ⟨⟨ho, ⟨by simp [hl], fun i s e => ?_, fun i s q e h hq => ?_, fun i j s t q e h hq e' h' hq' => ?_, R.clen, R.cnd, fun i u q hi hq => ?_, R.cellF, R.cell0, R.pre, fun x u hx hm => ?_, fun x hx => ?_, R.F0, R.Fpre⟩⟩, st⟩
  · rcases app_some e with e | ⟨rfl, rfl⟩
    · rw [old e]
      exact (R.slot i s e).mono st fun h q hq => upd_ne (own' e h hq)
    · rw [last]; exact hs
  · rcases app_some e with e | ⟨rfl, rfl⟩
    · rw [old e] at hq; exact R.own i s q e h hq
    · rw [last] at hq; cases hq
      exact ⟨fun z => ne (R.frz _ z) rfl, fun z => ne (R.cell_there z) rfl, R.fresh0 (by assumption)⟩
  · rcases app_some e with e1 | ⟨z1, z2⟩
    · rw [old e1] at hq
      rcases app_some e' with e2 | ⟨z1, z2⟩
      · rw [old e2] at hq'; exact R.apart i j s t q e1 h hq e2 h' hq'
      · rw [z1, last] at hq'; cases hq'
        exact absurd rfl (own' e1 h hq)
    · rw [z1, last] at hq; cases hq
      rcases app_some e' with e2 | ⟨z3, z4⟩
      · rw [old e2] at hq'; exact absurd rfl (own' e2 h' hq')
      · rw [z1, z3]
  · exact (R.cell i u q hi hq).mono st (upd_ne (ne (R.cell_there (List.mem_of_getElem? hq))))
  · rw [upd_ne (ne (by rw [R.frame x u hx hm]; exact fun z => nomatch z))]
    exact R.frame x u hx hm
  · rw [upd_ne (ne (R.frz x hx))]; exact R.frz x hx
/-- a pending object goes to a slot -/
theorem Pend.store {sv : SV} (P : Pend a w env hp σ H sv p) (i : Nat) : Rel a w (env.set i sv) hp (σ.set i (some (.ref p))) H := by
  obtain ⟨ho, R⟩ := P
  have hl : env.length = σ.length := by have := R.len; simpa using this
  have last : (σ ++ [some (V.ref p)])[env.length]? = some (some (.ref p)) := by rw [hl]; exact app_last
  have le : (env ++ [sv])[env.length]? = some sv := app_last
  have hs := R.slot env.length sv le
  rw [last] at hs
  have old : ∀ {j : Nat} {t : SV}, env[j]? = some t → (σ ++ [some (V.ref p)])[j]? = σ[j]? := fun {j t} e => by
    have := (List.getElem?_eq_some_iff.mp e).1
    rw [List.getElem?_append_left (by omega)]
  have key : ∀ {j : Nat} {t : SV}, (env.set i sv)[j]? = some t → (j = i ∧ t = sv ∧ i < env.length) ∨ (j ≠ i ∧ env[j]? = some t) := fun {j t} e => by
    by_cases hj : j = i
    · subst hj
      have il : j < env.length := by have := (List.getElem?_eq_some_iff.mp e).1; rw [List.length_set] at this; exact this
      rw [List.getElem?_set_self il] at e; cases e
      exact .inl ⟨rfl, rfl, il⟩
    · exact .inr ⟨hj, set_other hj e⟩
  refine ⟨by rw [List.length_set, List.length_set]; exact hl, fun j t e => ?_, fun j t q e h hq => ?_, fun j k t t' q e h hq e' h' hq' => ?_, R.clen, R.cnd, R.cell, R.cellF, R.cell0, R.pre, R.frame, R.frz, R.F0, R.Fpre⟩
  · rcases key e with ⟨rfl, rfl, il⟩ | ⟨hj, e1⟩
    · rw [List.getElem?_set_self (by omega)]; exact hs
    · rw [List.getElem?_set_ne (Ne.symm hj), ← old e1]
      exact R.slot j t (app_old e1)
  · rcases key e with ⟨rfl, rfl, il⟩ | ⟨hj, e1⟩
    · rw [List.getElem?_set_self (by omega)] at hq; cases hq
      exact R.own env.length _ _ le h last
    · exact R.own j t q (app_old e1) h (app_old (set_other hj hq))
  · rcases key e with ⟨rfl, rfl, il⟩ | ⟨hj, e1⟩
    · rw [List.getElem?_set_self (by omega)] at hq; cases hq
      rcases key e' with ⟨rfl, rfl, il'⟩ | ⟨hk, e2⟩
      · rfl
      · have z := R.apart env.length k _ t' _ le h last (app_old e2) h' (app_old (set_other hk hq'))
        have := (List.getElem?_eq_some_iff.mp e2).1
        omega
    · rcases key e' with ⟨rfl, rfl, il'⟩ | ⟨hk, e2⟩
      · rw [List.getElem?_set_self (by omega)] at hq'; cases hq'
        have z := R.apart env.length j _ t _ le h' last (app_old e1) h (app_old (set_other hj hq))
        have := (List.getElem?_eq_some_iff.mp e1).1
        omega
      · exact R.apart j k t t' q (app_old e1) h (app_old (set_other hj hq)) (app_old e2) h' (app_old (set_other hk hq'))
/-- a pending list is frozen -/
theorem Pend.freezeL {us : List U} (P : Pend a w env hp σ H (.ol us) p) : Rel a (w.more p) env hp σ H ∧ Stp w H (w.more p) H ∧ RU a.K a.cls (w.more p) H (.lst us) (.ref p) := by
  obtain ⟨ho, R⟩ := P
  have hl : env.length = σ.length := by have := R.len; simpa using this
  have last : (σ ++ [some (V.ref p)])[env.length]? = some (some (.ref p)) := by rw [hl]; exact app_last
  have le : (env ++ [SV.ol us])[env.length]? = some (.ol us) := app_last
  obtain ⟨q, h1, h2⟩ := R.slot env.length _ le
  rw [last] at h1; cases h1
  cases h2 with
  | lst h3 r =>
    have ru : RU a.K a.cls (w.more p) H (.lst us) (.ref p) := .lst (.inr rfl) h3 (r.mono Stp.more)
    have F := R.freeze (H' := H) le rfl last (by rw [h3]; exact fun z => nomatch z) (fun _ _ => rfl) ru
    have e : (env ++ [SV.ol us]).set env.length (.val (.lst us)) = env ++ [.val (.lst us)] := by simp
    rw [e] at F
    exact ⟨F.1.unpend, F.2, ru⟩
theorem Pend.freezeD {t : Bool} {us : List (U × U)} (P : Pend a w env hp σ H (.od t us) p) : ∃ u, H p = some u ∧ isDic u = true ∧ ∀ o, Rel a (w.more p) env hp σ (upd H p (.frz o u)) ∧ Stp w H (w.more p) (upd H p (.frz o u)) ∧ RU a.K a.cls (w.more p) (upd H p (.frz o u)) (.dic t us) (.ref p) := by
  obtain ⟨ho, R⟩ := P
  have hl : env.length = σ.length := by have := R.len; simpa using this
  have last : (σ ++ [some (V.ref p)])[env.length]? = some (some (.ref p)) := by rw [hl]; exact app_last
  have le : (env ++ [SV.od t us])[env.length]? = some (.od t us) := app_last
  obtain ⟨q, h1, h2⟩ := R.slot env.length _ le
  rw [last] at h1; cases h1
  obtain ⟨o1, o2, o3⟩ := R.own env.length _ p le rfl last
  have st : ∀ z, Stp w H (w.more p) (upd H p z) := fun z => ⟨fun _ h => .inl h, fun _ _ h => h, fun x hx => upd_ne fun z => o1 (z ▸ hx)⟩
  have e : (env ++ [SV.od t us]).set env.length (.val (.dic t us)) = env ++ [.val (.dic t us)] := by simp
  cases h2 with
  | dicK h3 r =>
    refine ⟨_, h3, rfl, fun o => ?_⟩
    have ru : RU a.K a.cls (w.more p) (upd H p (.frz o _)) (.dic false us) (.ref p) := .dicK (.inr rfl) upd_same (r.mono (st _))
    have F := R.freeze le rfl last (by rw [upd_same]; exact fun z => nomatch z) upd_out ru
    rw [e] at F
    exact ⟨F.1.unpend, F.2, ru⟩
  | dicT h3 r =>
    refine ⟨_, h3, rfl, fun o => ?_⟩
    have ru : RU a.K a.cls (w.more p) (upd H p (.frz o _)) (.dic true us) (.ref p) := .dicT (.inr rfl) upd_same (r.mono (st _))
    have F := R.freeze le rfl last (by rw [upd_same]; exact fun z => nomatch z) upd_out ru
    rw [e] at F
    exact ⟨F.1.unpend, F.2, ru⟩
def cellOf : SV → Option EO
  | .ol us => some (.lst us)
  | .od t us => some (.dic t us)
  | _ => none
/-- a pending object becomes a cell -/
theorem Pend.cell {sv : SV} {eo : EO} (P : Pend a w env hp σ H sv p) (e : cellOf sv = some eo) : Rel a ⟨w.F, w.ρ ++ [p]⟩ env (hp ++ [eo]) σ H ∧ Stp w H ⟨w.F, w.ρ ++ [p]⟩ H ∧ RU a.K a.cls ⟨w.F, w.ρ ++ [p]⟩ H (.ref hp.length) (.ref p) := by
  obtain ⟨ho, R⟩ := P
  have hl : env.length = σ.length := by have := R.len; simpa using this
  have last : (σ ++ [some (V.ref p)])[env.length]? = some (some (.ref p)) := by rw [hl]; exact app_last
  have le : (env ++ [sv])[env.length]? = some sv := app_last
  have hs := R.slot env.length _ le
  rw [last] at hs
  obtain ⟨o1, o2, o3⟩ := R.own env.length _ p le ho last
  have st : Stp w H ⟨w.F, w.ρ ++ [p]⟩ H := ⟨fun _ h => h, fun i q h => app_old h, fun _ _ => rfl⟩
  have oc : OC a.K a.cls w H eo p := by
    cases sv with
    | no => cases e
    | val u => cases e
    | ol us => obtain ⟨q, h1, h2⟩ := hs; cases h1; cases e; exact h2
    | od t us => obtain ⟨q, h1, h2⟩ := hs; cases h1; cases e; exact h2
  have old : ∀ {j : Nat} {t : SV}, env[j]? = some t → (σ ++ [some (V.ref p)])[j]? = σ[j]? := fun {j t} e => by
    have := (List.getElem?_eq_some_iff.mp e).1
    rw [List.getElem?_append_left (by omega)]
  refine ⟨⟨hl, fun i s e => ?_, fun i s q e h hq => ?_, fun i j s t q e h hq e' h' hq' => R.apart i j s t q (app_old e) h (app_old hq) (app_old e') h' (app_old hq'), by simp [R.clen], ?_, fun i o q hi hq => ?_, fun q hq => ?_, fun q hq => ?_, fun i q h => app_old (R.pre i q h), R.frame, R.frz, R.F0, R.Fpre⟩, st, .ref (by rw [← R.clen]; exact app_last)⟩
  · rw [← old e]; exact (R.slot i s (app_old e)).mono st fun _ _ _ => rfl
  · obtain ⟨q1, q2, q3⟩ := R.own i s q (app_old e) h (app_old hq)
    refine ⟨q1, fun z => ?_, q3⟩
    rcases List.mem_append.mp z with z | z
    · exact q2 z
    · simp at z
      subst z
      have z := R.apart i env.length s sv q (app_old e) h (app_old hq) le ho last
      have := (List.getElem?_eq_some_iff.mp e).1
      omega
  · rw [List.nodup_append]
    refine ⟨R.cnd, by simp, fun x hx y hy => ?_⟩
    simp at hy; subst hy
    exact fun z => o2 (z ▸ hx)
  · rcases app_some hi with hi | ⟨rfl, rfl⟩
    · have hlt := (List.getElem?_eq_some_iff.mp hi).1
      have hq' : w.ρ[i]? = some q := by
        rw [List.getElem?_append_left (by rw [R.clen]; exact hlt)] at hq; exact hq
      exact (R.cell i o q hi hq').mono st rfl
    · have : (w.ρ ++ [p])[w.ρ.length]? = some p := app_last
      rw [R.clen, hq] at this; cases this
      exact oc.mono st rfl
  · rcases List.mem_append.mp hq with z | z
    · exact R.cellF q z
    · simp at z; subst z; exact o1
  · rcases List.mem_append.mp hq with z | z
    · exact R.cell0 q z
    · simp at z; subst z; exact .inr o3
end
end EL
set_option Elab.async false
set_option linter.all false
set_option maxRecDepth 100000
/-! EC7: statements. -/
namespace EL
open PySem PySem.Spec PyProof.Rows L2

def FlOk (a : Act) (f : Fl) (D : Ends) (w : W) (σ : L2.St) (H : Hp) : Prop := match f with
  | .nx => D.nx σ H
  | .rt u => ∀ v, RU a.K a.cls w H u v → D.rt v H
  | .bk => D.bk σ H
  | .ct => D.ct σ H
def OutS (a : Act) (w : W) (H : Hp) (s : S) (f : Fl) (D : Ends) : Prop := ∀ (w' : W) (H' : Hp) (σ' : L2.St), Stp w H w' H' → Rel a w' s.env s.hp σ' H' → FlOk a f D w' σ' H'
def SatS (a : Act) (Φ : Phi) (w : W) (σ : L2.St) (H : Hp) (s : S) (m : M Fl) (D : Ends) : Prop :=
  Rel a w s.env s.hp σ H ∧ match m Φ s with
    | none => False
    | some (.ok f s') => OutS a w H s' f D
    | some (.ex c f v s') => XOut a w H s' c f v
def TSs (a : Act) (Φ : Phi) (m : M Fl) : TS := fun D σ H => ∃ w s, SatS a Φ w σ H s m D
def SS (X : Cx) (a : Act) (Φ : Phi) (st : Stmt) (m : M Fl) : Prop := PS X st (TSs a Φ m)
def SB (X : Cx) (a : Act) (Φ : Phi) (st : List Stmt) (m : M Fl) : Prop := PSs X st (TSs a Φ m)
/-- a fresh object -/
def TRO (a : Act) (Φ : Phi) (m : M SV) : TE := fun σ H Q => ∃ w s, Rel a w s.env s.hp σ H ∧ match m Φ s with
    | none => False
    | some (.ok sv s') => ∀ (w' : W) (H' : Hp) (p : Addr), Stp w H w' H' → Pend a w' s'.env s'.hp σ H' sv p → Q (.ref p) H'
    | some (.ex c f v s') => XOut a w H s' c f v
def SO (X : Cx) (a : Act) (Φ : Phi) (e : Expr) (m : M SV) : Prop := PE X e (TRO a Φ m)

def sSeq (m1 m2 : M Fl) : M Fl := bnd m1 fun f => match f with
  | .nx => m2
  | f => ret f
def sNext : M Fl := ret .nx
def sBreak : M Fl := ret .bk
def sCont : M Fl := ret .ct
def sExpr (m : M U) : M Fl := bnd m fun _ => ret .nx
def sRet (m : M U) : M Fl := bnd m fun u => ret (.rt u)
def sRetN : M Fl := ret (.rt .non)
def sIf (t : M Bool) (m1 m2 : M Fl) : M Fl := bnd t fun b => if b = true then m1 else m2
def store (i : Nat) (sv : SV) : M Fl := fun _ s => if i < s.env.length then some (.ok .nx (setE s i sv)) else none
def sSet (i : Nat) (m : M U) : M Fl := bnd m fun u => store i (.val u)
def sOwn (i : Nat) (m : M SV) : M Fl := bnd m fun sv => store i sv
def oLst (ms : M (List U)) : M SV := bnd ms fun us => ofO (if us.length ≤ line then some (.ol us) else none)
def oDic (t : Bool) : M SV := ret (.od t [])
def eFz (m : M SV) : M U := bnd m fun sv => match sv with
  | .ol us => ret (.lst us)
  | .od t kvs => ret (.dic t kvs)
  | _ => fail
def eCell (m : M SV) : M U := bnd m fun sv => match cellOf sv with
  | some eo => fun _ s => some (.ok (.ref s.hp.length) ⟨s.env, s.hp ++ [eo]⟩)
  | none => fail

section
variable {α β : Type} {a : Act} {Φ : Phi} {w : W} {σ : L2.St} {H : Hp} {s : S}
theorem OutS.step {w' : W} {H' : Hp} {f : Fl} {D : Ends} (h : OutS a w H s f D) (st : Stp w H w' H') : OutS a w' H' s f D := fun w2 H2 σ2 st2 R => h w2 H2 σ2 (st.trans st2) R
theorem SatS.here {f : Fl} {D : Ends} (h : SatS a Φ w σ H s (ret f) D) : FlOk a f D w σ H := h.2 w H σ Stp.refl h.1
theorem SatS.run {f : M Fl} {D : Ends} {w' : W} {H' : Hp} {s' : S} {σ' : L2.St} (R : Rel a w' s'.env s'.hp σ' H') (h : match f Φ s' with
    | none => False
    | some (.ok z s2) => OutS a w H s2 z D
    | some (.ex c g v s2) => XOut a w H s2 c g v) (st : Stp w H w' H') : SatS a Φ w' σ' H' s' f D := by
  refine ⟨R, ?_⟩
  cases e2 : f Φ s' with
  | none => rw [e2] at h; exact h
  | some r2 =>
    rw [e2] at h
    cases r2 with
    | ok z s2 => exact OutS.step h st
    | ex c g v s2 => exact XOut.step h st
/-- an expression, then a statement -/
theorem TSs.one {m : M α} {k : α → M Fl} {r1 : W → Hp → α → β → Prop} {D : Ends} {P : β → Hp → Prop} (h : TSs a Φ (bnd m k) D σ H)
    (f : ∀ (w : W) (H : Hp) (s : S) (x : α) (y : β), r1 w H x y → SatS a Φ w σ H s (k x) D → P y H) : TR a Φ m r1 σ H P := by
  obtain ⟨w, s, R, h⟩ := h
  refine ⟨w, s, R, ?_⟩
  unfold bnd at h
  cases e : m Φ s with
  | none => rw [e] at h; exact h.elim
  | some r =>
    rw [e] at h
    cases r with
    | ex c g v s' => exact h
    | ok x s' => exact fun w1 H1 y st R1 rx => f w1 H1 s' x y rx (SatS.run R1 h st)
theorem TSs.own {m : M SV} {k : SV → M Fl} {D : Ends} {P : V → Hp → Prop} (h : TSs a Φ (bnd m k) D σ H)
    (f : ∀ (w : W) (H : Hp) (s : S) (sv : SV) (p : Addr), Pend a w s.env s.hp σ H sv p → SatS a Φ w σ H s (k sv) D → P (.ref p) H) : TRO a Φ m σ H P := by
  obtain ⟨w, s, R, h⟩ := h
  refine ⟨w, s, R, ?_⟩
  unfold bnd at h
  cases e : m Φ s with
  | none => rw [e] at h; exact h.elim
  | some r =>
    rw [e] at h
    cases r with
    | ex c g v s' => exact h
    | ok x s' => exact fun w1 H1 p st P1 => f w1 H1 s' x p P1 (SatS.run P1.2.unpend h st)
theorem TR.own {γ δ : Type} {m : M SV} {k : SV → M γ} {r : W → Hp → γ → δ → Prop} {Q : δ → Hp → Prop} {P : V → Hp → Prop} (h : TR a Φ (EL.bnd m k) r σ H Q)
    (f : ∀ (w : W) (H : Hp) (s : S) (sv : SV) (p : Addr), Pend a w s.env s.hp σ H sv p → Sat a Φ w σ H s (k sv) r Q → P (.ref p) H) : TRO a Φ m σ H P := by
  obtain ⟨w, s, R, h⟩ := h
  refine ⟨w, s, R, ?_⟩
  unfold EL.bnd at h
  cases e : m Φ s with
  | none => rw [e] at h; exact h.elim
  | some z =>
    rw [e] at h
    cases z with
    | ex c g v s' => exact h
    | ok x s' =>
      intro w1 H1 p st P1
      refine f w1 H1 s' x p P1 ⟨P1.2.unpend, ?_⟩
      have h' : match k x Φ s' with
        | none => False
        | some (.ok z s2) => Out a w σ H s2 r z Q
        | some (.ex c g v s2) => XOut a w H s2 c g v := h
      cases e2 : k x Φ s' with
      | none => rw [e2] at h'; exact h'
      | some z2 =>
        rw [e2] at h'
        cases z2 with
        | ok z s2 => exact h'.step st
        | ex c g v s2 => exact h'.step st
theorem TRO.one {γ δ : Type} {m : M γ} {k : γ → M SV} {r : W → Hp → γ → δ → Prop} {Q : V → Hp → Prop} {P : δ → Hp → Prop} (h : TRO a Φ (bnd m k) σ H Q)
    (f : ∀ (w : W) (H : Hp) (s : S) (x : γ) (y : δ), r w H x y → Rel a w s.env s.hp σ H → (match k x Φ s with
      | none => False
      | some (.ok sv s') => ∀ (w' : W) (H' : Hp) (p : Addr), Stp w H w' H' → Pend a w' s'.env s'.hp σ H' sv p → Q (.ref p) H'
      | some (.ex c f v s') => XOut a w H s' c f v) → P y H) : TR a Φ m r σ H P := by
  obtain ⟨w, s, R, h⟩ := h
  refine ⟨w, s, R, ?_⟩
  unfold bnd at h
  cases e : m Φ s with
  | none => rw [e] at h; exact h.elim
  | some z =>
    rw [e] at h
    cases z with
    | ex c g v s' => exact h
    | ok x s' =>
      intro w1 H1 y st R1 rx
      refine f w1 H1 s' x y rx R1 ?_
      have h' : match k x Φ s' with
        | none => False
        | some (.ok sv s2) => ∀ (w' : W) (H' : Hp) (p : Addr), Stp w H w' H' → Pend a w' s2.env s2.hp σ H' sv p → Q (.ref p) H'
        | some (.ex c g v s2) => XOut a w H s2 c g v := h
      cases e2 : k x Φ s' with
      | none => rw [e2] at h'; exact h'
      | some z2 =>
        rw [e2] at h'
        cases z2 with
        | ok z s2 => exact fun w2 H2 p st2 P2 => h' w2 H2 p (st.trans st2) P2
        | ex c g v s2 => exact XOut.step h' st
end

/-! ### freezing, cells, fresh displays -/
def tFz (t : TE) : TE := fun σ H Q => t σ H fun v H1 => Q v H1 ∨ ∃ p u, v = .ref p ∧ H1 p = some u ∧ isDic u = true ∧ ∀ o, Q v (upd H1 p (.frz o u))
theorem PE.fz {X : Cx} {e : Expr} {t : TE} (h : PE X e t) : PE X e (tFz t) := by
  refine ⟨fun pins s σ H Q I q => ?_⟩
  refine thn (h.run pins s σ H _ I q) fun u s1 ⟨v, H1, I1, r1, q1⟩ => ?_
  rcases q1 with q1 | ⟨p, u', e1, h3, h4, q1⟩
  · exact ⟨v, H1, I1, r1, q1⟩
  · obtain ⟨o, I2⟩ := Inv.frz I1 h3 h4
    exact ⟨v, _, I2, r1, q1 o⟩
section
variable {a : Act} {X : Cx} {Φ : Phi} {e : Expr} {es : List Expr} {ms : M (List U)} {m : M U} {mo : M SV} {pos : Pos}
theorem se_fz (h : SO X a Φ e mo) : SE X a Φ e (eFz mo) :=
  PE.imp (PE.fz h) fun σ H Q q => TR.own q fun w H s sv p P k => by
    cases sv with
    | no => exact k.2.elim
    | val u => exact k.2.elim
    | ol us =>
      obtain ⟨R, st, r⟩ := P.freezeL
      exact .inl (Sat.ret k _ _ _ st R r)
    | od t kvs =>
      obtain ⟨u, h1, h2, h3⟩ := P.freezeD
      refine .inr ⟨p, u, rfl, h1, h2, fun o => ?_⟩
      obtain ⟨R, st, r⟩ := h3 o
      exact Sat.ret k _ _ _ st R r
theorem se_cell (h : SO X a Φ e mo) : SE X a Φ e (eCell mo) :=
  PE.imp h fun σ H Q q => TR.own q fun w H s sv p P k => by
    cases e : cellOf sv with
    | none => rw [e] at k; exact k.2.elim
    | some eo =>
      rw [e] at k
      obtain ⟨R, st, r⟩ := P.cell e
      exact k.2 _ _ _ st R r
theorem so_lst (h : SA X a Φ es ms) : SO X a Φ (.List es pos) (oLst ms) :=
  PE.imp (pe_lst h) fun σ H Q q => TRO.one q fun w H s us vs r R k => by
    unfold ofO at k
    by_cases hl : us.length ≤ line
    · rw [if_pos hl] at k
      refine ⟨by rw [← r.length]; exact hl, fun p hp => ?_⟩
      have st : Stp w H w (upd H p (.lst vs)) := ⟨fun _ h => h, fun _ _ h => h, fun x hx => upd_ne fun z => R.frz x hx (by rw [z]; exact hp)⟩
      obtain ⟨P, st⟩ := R.pend (sv := .ol us) (o := .lst vs) hp rfl ⟨p, rfl, .lst upd_same (r.mono st)⟩
      exact k _ _ _ st P
    · rw [if_neg hl] at k; exact k.elim
theorem so_dicK : SO X a Φ (.Dict [] [] pos) (oDic false) :=
  PE.imp pe_dnewK fun σ H Q ⟨w, s, R, k⟩ => fun p hp => by
    obtain ⟨P, st⟩ := R.pend (sv := .od false []) (o := .dK []) hp rfl ⟨p, rfl, .dicK upd_same .nil⟩
    exact k _ _ _ st P
theorem so_dicT : SO X a Φ (.Dict [] [] pos) (oDic true) :=
  PE.imp pe_dnewT fun σ H Q ⟨w, s, R, k⟩ => fun p hp => by
    obtain ⟨P, st⟩ := R.pend (sv := .od true []) (o := .dT []) hp rfl ⟨p, rfl, .dicT upd_same .nil⟩
    exact k _ _ _ st P
end

/-! ### statements -/
section
variable {a : Act} {X : Cx} {Φ : Phi} {e : Expr} {st : Stmt} {sts sts' : List Stmt} {m : M U} {mo : M SV} {t : M Bool} {m1 m2 : M Fl} {pos pos' : Pos} {i : Nat} {x : Str}
theorem sb_nil : SB X a Φ [] sNext := PSs.imp (t := tNext) pss_nil fun D σ H ⟨w, s, h⟩ => SatS.here h
theorem sb_one (h : SS X a Φ st m1) : SB X a Φ [st] m1 := pss_one h
theorem sb_cons (h1 : SS X a Φ st m1) (h2 : SB X a Φ sts m2) : SB X a Φ (st :: sts) (sSeq m1 m2) :=
  PSs.imp (t := tSeq (TSs a Φ m1) (TSs a Φ m2)) (pss_cons h1 h2) fun D σ H ⟨w, s, R, h⟩ => by
    refine ⟨w, s, R, ?_⟩
    unfold sSeq bnd at h
    cases e : m1 Φ s with
    | none => rw [e] at h; exact h.elim
    | some z =>
      rw [e] at h
      cases z with
      | ex c g v s' => exact h
      | ok f s' =>
        cases f with
        | nx => exact fun w' H' σ' st R' => ⟨w', s', SatS.run R' h st⟩
        | rt u => exact fun w' H' σ' st R' => h w' H' σ' st R'
        | bk => exact fun w' H' σ' st R' => h w' H' σ' st R'
        | ct => exact fun w' H' σ' st R' => h w' H' σ' st R'
theorem ss_pass : SS X a Φ (.Pass pos) sNext := PS.imp (t := tNext) ps_pass fun D σ H ⟨w, s, h⟩ => SatS.here h
theorem ss_break : SS X a Φ (.Break pos) sBreak := PS.imp (t := tBreak) ps_break fun D σ H ⟨w, s, h⟩ => SatS.here h
theorem ss_cont : SS X a Φ (.Continue pos) sCont := PS.imp (t := tCont) ps_continue fun D σ H ⟨w, s, h⟩ => SatS.here h
theorem ss_expr (h : SE X a Φ e m) (hs : swapsWith e none pos.line X.env = pure false) : SS X a Φ (.Expr e pos) (sExpr m) :=
  PS.imp (ps_expr h hs) fun D σ H q => TSs.one (r1 := relU a) q fun w H s u v r k => SatS.here k
theorem ss_ret (h : SE X a Φ e m) : SS X a Φ (.Return (some e) pos) (sRet m) :=
  PS.imp (ps_ret h) fun D σ H q => TSs.one (r1 := relU a) q fun w H s u v r k => SatS.here k v r
theorem ss_retN : SS X a Φ (.Return none pos) sRetN := PS.imp (t := tRetN) ps_retN fun D σ H ⟨w, s, h⟩ => SatS.here h .non .non
theorem ss_if {c : Expr} (h : STt X a Φ c t) (h1 : SB X a Φ sts m1) (h2 : SB X a Φ sts' m2) : SS X a Φ (.If c sts sts' pos) (sIf t m1 m2) :=
  PS.imp (ps_if h h1 h2) fun D σ H q => TSs.one (r1 := relB) q fun w H s b c r k => by
    have e1 : b = c := r
    subst e1
    cases b with
    | true => rw [if_pos rfl]; exact ⟨w, s, k⟩
    | false => rw [if_neg Bool.false_ne_true]; exact ⟨w, s, k⟩
theorem SatS.store {D : Ends} {sv : SV} {w : W} {σ : L2.St} {H : Hp} {s : S} (k : SatS a Φ w σ H s (EL.store i sv) D) : i < s.env.length ∧ OutS a w H (setE s i sv) .nx D := by
  obtain ⟨R, k⟩ := k
  unfold EL.store at k
  by_cases h : i < s.env.length
  · rw [if_pos h] at k; exact ⟨h, k⟩
  · rw [if_neg h] at k; exact k.elim
theorem ss_set (hN : X.N.Nodup) (hi : X.N[i]? = some x) (hx : Loc X.env.scope x) (hf : X.fn x = true ∨ X.env.scope.names.lookup x = some .local) (h : SE X a Φ e m) (hs : swapsWith e (some (.Name x pos')) pos.line X.env = pure false) : SS X a Φ (.Assign [.Name x pos'] e pos) (sSet i m) :=
  PS.imp (ps_set hN hi hx h hs hf) fun D σ H q => TSs.one (r1 := relU a) q fun w H s u v r k => (SatS.store k).2 w H _ Stp.refl (Rel.setV k.1 r)
theorem ss_own (hN : X.N.Nodup) (hi : X.N[i]? = some x) (hx : Loc X.env.scope x) (hf : X.fn x = true ∨ X.env.scope.names.lookup x = some .local) (h : SO X a Φ e mo) (hs : swapsWith e (some (.Name x pos')) pos.line X.env = pure false) : SS X a Φ (.Assign [.Name x pos'] e pos) (sOwn i mo) :=
  PS.imp (ps_set hN hi hx h hs hf) fun D σ H q => TSs.own q fun w H s sv p P k => (SatS.store k).2 w H _ Stp.refl (P.store i)
end

/-! ### targets -/
/-- a target takes a value -/
def tgName (i : Nat) (u : U) : M Unit := fun _ s => if i < s.env.length then some (.ok () (setE s i (.val u))) else none
def tgTup (n : Nat) (f : List U → M Unit) (u : U) : M Unit := match u with
  | .tup us => if us.length = n then f us else fail
  | _ => fail
def tgsNil (us : List U) : M Unit := match us with
  | [] => ret ()
  | _ => fail
def tgsCons (f : U → M Unit) (g : List U → M Unit) (us : List U) : M Unit := match us with
  | u :: r => bnd (f u) fun _ => g r
  | [] => fail
/-- slots that stay -/
def SameBut (sl : List Nat) (σ σ' : L2.St) : Prop := σ'.length = σ.length ∧ ∀ j, j ∉ sl → σ'[j]? = σ[j]?
/-- the states behind -/
def SatT (a : Act) (Φ : Phi) (w : W) (σ0 σ : L2.St) (H : Hp) (s : S) (sl : List Nat) (m : M Unit) (Q : L2.St → Hp → Prop) : Prop :=
  Rel a w s.env s.hp σ H ∧ match m Φ s with
    | none => False
    | some (.ok _ s') => ∀ (w' : W) (H' : Hp) (σ' : L2.St), Stp w H w' H' → Rel a w' s'.env s'.hp σ' H' → SameBut sl σ0 σ' → Q σ' H'
    | some (.ex _ _ _ _) => False
def SG (X : Cx) (a : Act) (Φ : Phi) (sl : List Nat) (tg : Expr) (f : U → M Unit) : Prop := PG X tg fun v σ H Q => ∃ w s u, RU a.K a.cls w H u v ∧ SatT a Φ w σ σ H s sl (f u) Q
def SGs (X : Cx) (a : Act) (Φ : Phi) (sl : List Nat) (tg : List Expr) (f : List U → M Unit) : Prop := PGs X tg fun v σ H Q => ∃ w s u, RUs a.K a.cls w H u v ∧ SatT a Φ w σ σ H s sl (f u) Q
theorem PG.imp {X : Cx} {e : Expr} {t t' : TG} (h : PG X e t) (i : ∀ v σ H Q, t' v σ H Q → t v σ H Q) : PG X e t' := ⟨fun pins s σ H v u Q I r q => h.run pins s σ H v u Q I r (i v σ H Q q)⟩
theorem PGs.imp {X : Cx} {e : List Expr} {t t' : TGs} (h : PGs X e t) (i : ∀ v σ H Q, t' v σ H Q → t v σ H Q) : PGs X e t' := ⟨fun pins s σ H v u Q I r q => h.run pins s σ H v u Q I r (i v σ H Q q)⟩
section
variable {a : Act} {X : Cx} {Φ : Phi} {e : Expr} {es : List Expr} {f : U → M Unit} {g : List U → M Unit} {pos : Pos} {i n k : Nat} {x : Str} {sl sl' : List Nat}
theorem SameBut.refl {σ : L2.St} : SameBut sl σ σ := ⟨rfl, fun _ _ => rfl⟩
theorem sg_name (hN : X.N.Nodup) (hi : X.N[i]? = some x) (hx : Loc X.env.scope x) (hf : X.fn x = true ∨ X.env.scope.names.lookup x = some .local) : SG X a Φ [i] (.Name x pos) (tgName i) :=
  PG.imp (pg_name hN hi hx hf) fun v σ H Q ⟨w, s, u, r, R, h⟩ => by
    unfold tgName at h
    by_cases hl : i < s.env.length
    · rw [if_pos hl] at h
      exact h w H _ Stp.refl (R.setV r) ⟨by simp, fun j hj => List.getElem?_set_ne (fun z => hj (by simp [z]))⟩
    · rw [if_neg hl] at h; exact h.elim
theorem sgs_nil : SGs X a Φ [] [] tgsNil :=
  PGs.imp pgs_nil fun v σ H Q ⟨w, s, u, r, R, h⟩ => by
    cases r with
    | nil => exact ⟨rfl, h w H σ Stp.refl R .refl⟩
    | cons _ _ => exact h.elim
theorem sgs_cons (h1 : SG X a Φ sl e f) (h2 : SGs X a Φ sl' es g) (hs : (assignEach (e :: es) X.env).map (·.2) = assign e X.env :: (assignEach es X.env).map (·.2)) : SGs X a Φ (sl ++ sl') (e :: es) (tgsCons f g) :=
  PGs.imp (pgs_cons h1 h2 hs) fun v σ H Q ⟨w, s, u, r, R, h⟩ => by
    cases r with
    | nil => exact h.elim
    | @cons u1 v1 us vs r1 r2 =>
      refine ⟨_, _, rfl, w, s, _, r1, R, ?_⟩
      have h' : match bnd (f u1) (fun _ => g us) Φ s with
        | none => False
        | some (.ok _ s') => ∀ (w' : W) (H' : Hp) (σ' : L2.St), Stp w H w' H' → Rel a w' s'.env s'.hp σ' H' → SameBut (sl ++ sl') σ σ' → Q σ' H'
        | some (.ex _ _ _ _) => False := h
      unfold bnd at h'
      cases e : f u1 Φ s with
      | none => rw [e] at h'; exact h'
      | some z =>
        rw [e] at h'
        cases z with
        | ex c q v s' => exact absurd h' (by cases s'; intro z; exact z)
        | ok _ s' =>
          intro w' H' σ' st R' sb
          refine ⟨w', s', us, r2.mono st, R', ?_⟩
          have h2 : match g us Φ s' with
            | none => False
            | some (.ok _ s') => ∀ (w' : W) (H' : Hp) (σ' : L2.St), Stp w H w' H' → Rel a w' s'.env s'.hp σ' H' → SameBut (sl ++ sl') σ σ' → Q σ' H'
            | some (.ex _ _ _ _) => False := h'
          cases e2 : g us Φ s' with
          | none => rw [e2] at h2; exact h2
          | some z2 =>
            rw [e2] at h2
            cases z2 with
            | ex c q v s' => exact h2
            | ok _ s2 => exact fun w2 H2 σ2 st2 R2 sb2 => h2 w2 H2 σ2 (st.trans st2) R2 ⟨sb2.1.trans sb.1, fun j hj => (sb2.2 j fun z => hj (List.mem_append_right _ z)).trans (sb.2 j fun z => hj (List.mem_append_left _ z))⟩
theorem sg_tup (hK : X.K = a.K) (hc : X.calm = true) (h : SGs X a Φ sl es g) (hn : (assignEach es X.env).length = n) (hst : (assignEach es X.env).findIdx? (·.1) = none) : SG X a Φ sl (.Tuple es k pos) (tgTup n g) :=
  PG.imp (pg_tup (n := n) hc h hn hst) fun v σ H Q ⟨w, s, u, r, R, h⟩ => by
    cases u <;> first | exact h.elim | skip
    rename_i us
    unfold tgTup at h
    by_cases hl : us.length = n
    · simp only [hl, if_true] at h
      cases r with
      | tup f1 h1 r1 => exact ⟨_, _, rfl, by rw [hK]; exact SqT.of h1, by rw [← r1.length]; exact hl, w, s, us, r1, R, h⟩
    · simp only [hl, if_false] at h; exact h.elim
end
end EL
set_option Elab.async false
set_option linter.all false
set_option maxRecDepth 100000
/-! EC8: what is walked; for. -/
namespace EL
open PySem PySem.Spec PyProof.Rows L2

/-- J walks through us -/
def WalkU (a : Act) (us : List U) (J : It) (w : W) (H : Hp) : Prop := ∃ (G : Hp → Prop) (Y : Nat → Hp → V → Hp → Prop), Walk J us.length G Y ∧ (∀ (w' : W) (H' : Hp), Stp w H w' H' → G H') ∧
  ∀ (i : Nat) (H1 : Hp) (x : V) (H2 : Hp), i < us.length → Y i H1 x H2 → ∀ (b : Act) (w1 : W) (env : List SV) (hp : List EO) (σ : L2.St), b.K = a.K → b.cls = a.cls → Stp w H w1 H1 → Rel b w1 env hp σ H1 → ∃ (w2 : W) (u : U), Stp w1 H1 w2 H2 ∧ Rel b w2 env hp σ H2 ∧ us[i]? = some u ∧ RU a.K a.cls w2 H2 u x
abbrev relJ (a : Act) : W → Hp → List U → It → Prop := fun w H us J => WalkU a us J w H
def SI (X : Cx) (a : Act) (Φ : Phi) (tg iter : Expr) (m : M (List U)) : Prop := PI X tg iter fun σ H R => TR a Φ m (relJ a) σ H fun J H' => R J H'
theorem PI.imp {X : Cx} {tg iter : Expr} {t t' : TI} (h : PI X tg iter t) (i : ∀ σ H R, t' σ H R → t σ H R) : PI X tg iter t' := ⟨fun pins s σ H R I q => h.run pins s σ H R I (i σ H R q)⟩
theorem WalkU.mono {a : Act} {us : List U} {J : It} {w w' : W} {H H' : Hp} (h : WalkU a us J w H) (st : Stp w H w' H') : WalkU a us J w' H' := by
  obtain ⟨G, Y, h1, h2, h3⟩ := h
  exact ⟨G, Y, h1, fun w2 H2 st2 => h2 w2 H2 (st.trans st2), fun i H1 x H2 hi hy b w1 env hp σ hK hc st1 R => h3 i H1 x H2 hi hy b w1 env hp σ hK hc (st.trans st1) R⟩

/-! ### lists and tuples -/
def iSeq (K : PySem.W.Frag) (tl : TE) : TI := fun σ H R => tl σ H fun x H1 => ∃ a, x = .ref a ∧ (((∃ xs, SqL K H1 a xs) ∧ R (Itl K a) H1) ∨ ((∃ xs, SqT K H1 a xs) ∧ R (Itt K a) H1))
theorem pi_seq {X : Cx} {tg l : Expr} {tl : TE} (hl : PE X l tl) : PI X tg l (iSeq X.K tl) := by
  refine ⟨fun pins s σ H R I h => ?_⟩
  refine thn (hl.run pins s σ H _ I h) fun v s1 ⟨x, H1, I1, r1, q1⟩ => ?_
  obtain ⟨a, e, q1⟩ := q1
  subst e
  cases r1
  rcases q1 with ⟨⟨xs, hq⟩, q⟩ | ⟨⟨xs, hq⟩, q⟩
  · obtain ⟨its, rv, p, hz⟩ := I1.list hq
    refine wpAny_pyIter_list p.isList ?_
    refine ⟨s1.heap.objs.size, [s1.heap.objs.size], _, _, H1, rfl, I1.kept (t' := s1.toks) fun b o e => Heap.get?_push_of_some _ e, turn_list a _, ⟨_, Heap.get?_push_size _ rfl, rfl, rfl⟩, fun b hb => ?_, q⟩
    have e : b = s1.heap.objs.size := by simpa using hb
    subst e
    exact I1.fpOk (Nat.le_refl _) (I1.hok.fresh (Nat.le_refl _))
  · obtain ⟨its, rv, p, hz⟩ := I1.tuple hq
    refine wpAny_pyIter_tuple (show s1.heap.IsTuple a its.toArray from p) ?_
    refine ⟨s1.heap.objs.size, [s1.heap.objs.size], _, _, H1, rfl, I1.kept (t' := s1.toks) fun b o e => Heap.get?_push_of_some _ e, turn_tuple a _, ⟨_, Heap.get?_push_size _ rfl, rfl, rfl⟩, fun b hb => ?_, q⟩
    have e : b = s1.heap.objs.size := by simpa using hb
    subst e
    exact I1.fpOk (Nat.le_refl _) (I1.hok.fresh (Nat.le_refl _))
theorem walkU_list {a : Act} {us : List U} {vs : List V} {p : Addr} {w : W} {H : Hp} (f : w.F p) (h : Rd H p (.lst vs)) (r : RUs a.K a.cls w H us vs) : WalkU a us (Itl a.K p) w H := by
  have hl := r.length
  refine ⟨fun H' => SqL a.K H' p vs, YAt vs, by rw [hl]; exact walk_list, fun w' H' st => .inl (rd_step (st.H p f) h), fun i H1 x H2 hi hy b w1 env hp σ hK hc st R => ?_⟩
  obtain ⟨rfl, hx⟩ := hy
  obtain ⟨u, h1, h2⟩ := r.get' hx
  exact ⟨w1, u, Stp.refl, R, h1, h2.mono st⟩
theorem walkU_tup {a : Act} {us : List U} {vs : List V} {p : Addr} {w : W} {H : Hp} (f : w.F p) (h : H p = some (.tup vs)) (r : RUs a.K a.cls w H us vs) : WalkU a us (Itt a.K p) w H := by
  have hl := r.length
  refine ⟨fun H' => SqT a.K H' p vs, YAt vs, by rw [hl]; exact walk_tup, fun w' H' st => SqT.of ((st.H p f).trans h), fun i H1 x H2 hi hy b w1 env hp σ hK hc st R => ?_⟩
  obtain ⟨rfl, hx⟩ := hy
  obtain ⟨u, h1, h2⟩ := r.get' hx
  exact ⟨w1, u, Stp.refl, R, h1, h2.mono st⟩
theorem walkU_scrK {a : Act} {ns : List Int} {p : Addr} {w : W} {H : Hp} (h : ∀ H' : Hp, SqL a.K H' p (ns.map V.int)) : WalkU a (ns.map U.int) (Itl a.K p) w H := by
  have r : RUs a.K a.cls w H (ns.map U.int) (ns.map V.int) := RUs.of_ints ns
  have hl := r.length
  refine ⟨fun H' => SqL a.K H' p (ns.map V.int), YAt (ns.map V.int), by rw [hl]; exact walk_list, fun w' H' st => h H', fun i H1 x H2 hi hy b w1 env hp σ hK hc st R => ?_⟩
  obtain ⟨rfl, hx⟩ := hy
  obtain ⟨u, h1, h2⟩ := r.get' hx
  exact ⟨w1, u, Stp.refl, R, h1, h2.mono st⟩
/-- the items of a value -/
def itemsU : U → Option (List U)
  | .lst us => some us
  | .tup us => some us
  | .scr ns => some (ns.map U.int)
  | _ => none
def iItems (m : M U) : M (List U) := bnd m fun u => ofO (itemsU u)
theorem si_seq {X : Cx} {a : Act} {Φ : Phi} {tg e : Expr} {m : M U} (hK : X.K = a.K) (h : SE X a Φ e m) : SI X a Φ tg e (iItems m) :=
  PI.imp (pi_seq h) fun σ H R q => TR.one q fun w H s u x rx k => by
    obtain ⟨us, e, R', k2⟩ := Sat.fin k
    rw [hK]
    cases u <;> first | (cases e; done) | skip
    · cases e
      cases rx with
      | tup f h r => exact ⟨_, rfl, .inr ⟨⟨_, SqT.of h⟩, Out.now k2 R' (walkU_tup f h r)⟩⟩
    · cases e
      cases rx with
      | lst f h r => exact ⟨_, rfl, .inl ⟨⟨_, SqL.of h⟩, Out.now k2 R' (walkU_list f (.inl h) r)⟩⟩
    · cases e
      cases rx with
      | scr f h => exact ⟨_, rfl, .inl ⟨⟨_, .inl h⟩, Out.now k2 R' (walkU_list f h (RUs.of_ints _))⟩⟩
      | scrK h => exact ⟨_, rfl, .inl ⟨⟨_, h H⟩, Out.now k2 R' (walkU_scrK h)⟩⟩
/-! ### ranges -/
def rangeU (lo : Int) (n : Nat) : List U := (List.range n).map fun k : Nat => U.int (lo + (k : Int))
def rng1 : List U → Option (List U)
  | [.int j] => if -(2 ^ 62) ≤ j ∧ j < 2 ^ 62 then some (rangeU 0 j.toNat) else none
  | _ => none
def rng2 : List U → Option (List U)
  | [.int i, .int j] => if (-(2 ^ 62) ≤ i ∧ i < 2 ^ 62) ∧ -(2 ^ 62) ≤ j ∧ j < 2 ^ 62 then some (rangeU i (j - i).toNat) else none
  | _ => none
def iRange (ms : M (List U)) : M (List U) := bnd ms fun us => ofO (rng1 us)
def iRange2 (ms : M (List U)) : M (List U) := bnd ms fun us => ofO (rng2 us)
theorem walkU_range {a : Act} {lo : Int} {n : Nat} {w : W} {H : Hp} : WalkU a (rangeU lo n) (Itr lo n) w H := by
  have hl : (rangeU lo n).length = n := by simp [rangeU]
  refine ⟨fun _ => True, YFn fun i => .int (lo + i), by rw [hl]; exact walk_range, fun _ _ _ => trivial, fun i H1 x H2 hi hy b w1 env hp σ hK hc st R => ?_⟩
  obtain ⟨rfl, hx⟩ := hy
  subst hx
  rw [hl] at hi
  exact ⟨w1, .int (lo + (i : Nat)), Stp.refl, R, by simp [rangeU, hi], .int _⟩
section
variable {X : Cx} {a : Act} {Φ : Phi} {tg e e1 : Expr} {ms : M (List U)} {p pos : Pos}
theorem rng1_some {us : List U} {z : List U} (e : rng1 us = some z) : ∃ j, us = [.int j] ∧ -(2 ^ 62) ≤ j ∧ j < 2 ^ 62 ∧ z = rangeU 0 j.toNat := by
  unfold rng1 at e
  split at e
  · split at e
    · rename_i h; cases e; exact ⟨_, rfl, h.1, h.2, rfl⟩
    · cases e
  · cases e
theorem rng2_some {us : List U} {z : List U} (e : rng2 us = some z) : ∃ i j, us = [.int i, .int j] ∧ (-(2 ^ 62) ≤ i ∧ i < 2 ^ 62 ∧ -(2 ^ 62) ≤ j ∧ j < 2 ^ 62) ∧ z = rangeU i (j - i).toNat := by
  unfold rng2 at e
  split at e
  · split at e
    · rename_i h; cases e; exact ⟨_, _, rfl, ⟨h.1.1, h.1.2, h.2.1, h.2.2⟩, rfl⟩
    · cases e
  · cases e
theorem si_range (hg : Gl X "range") (hm : X.mg "range" = none) (h : SA X a Φ [e] ms) (hs : starEach [e] X.env = [(false, eval e X.env)]) : SI X a Φ tg (.Call (.Name "range" p) [e] [] pos) (iRange ms) :=
  PI.imp (pi_range1 hg hm h hs) fun σ H R q => TR.one q fun w H s us vs r k => by
    obtain ⟨z, e, R', k2⟩ := Sat.fin k
    obtain ⟨j, rfl, h1, h2, rfl⟩ := rng1_some e
    cases r with
    | cons r1 r =>
      cases r
      cases r1
      exact ⟨j, rfl, h1, h2, Out.now k2 R' walkU_range⟩
theorem si_range2 (hg : Gl X "range") (hm : X.mg "range" = none) (h : SA X a Φ [e, e1] ms) (hs : starEach [e, e1] X.env = [(false, eval e X.env), (false, eval e1 X.env)]) (hs2 : starEach [e1] X.env = [(false, eval e1 X.env)]) : SI X a Φ tg (.Call (.Name "range" p) [e, e1] [] pos) (iRange2 ms) :=
  PI.imp (pi_range2 hg hm h hs hs2) fun σ H R q => TR.one q fun w H s us vs r k => by
    obtain ⟨z, e, R', k2⟩ := Sat.fin k
    obtain ⟨i, j, rfl, h1, rfl⟩ := rng2_some e
    cases r with
    | cons r1 r =>
      cases r with
      | cons r2 r =>
        cases r
        cases r1
        cases r2
        exact ⟨i, j, rfl, h1, Out.now k2 R' walkU_range⟩
end

/-! ### for -/
def forL (body : U → M Fl) : List U → M Fl
  | [] => ret .nx
  | u :: us => bnd (body u) fun f => match f with
    | .nx => forL body us
    | .ct => forL body us
    | .bk => ret .nx
    | .rt v => ret (.rt v)
def seqT (m : M Unit) (b : M Fl) : M Fl := bnd m fun _ => b
def sFor (mi : M (List U)) (f : U → M Unit) (b : M Fl) : M Fl := bnd mi fun us => forL (fun u => seqT (f u) b) us
section
variable {X : Cx} {a : Act} {Φ : Phi} {tg iter : Expr} {body : List Stmt} {mi : M (List U)} {f : U → M Unit} {b : M Fl} {pos : Pos} {sl : List Nat}
theorem SatS.thenF {w : W} {σ : L2.St} {H : Hp} {s : S} {m : M Fl} {k : Fl → M Fl} {D D' : Ends} (h : SatS a Φ w σ H s (bnd m k) D)
    (c : ∀ (fl : Fl) (w' : W) (σ' : L2.St) (H' : Hp) (s' : S), Stp w H w' H' → SatS a Φ w' σ' H' s' (k fl) D → FlOk a fl D' w' σ' H') : SatS a Φ w σ H s m D' := by
  obtain ⟨R, h⟩ := h
  refine ⟨R, ?_⟩
  unfold bnd at h
  cases e : m Φ s with
  | none => rw [e] at h; exact h.elim
  | some z =>
    rw [e] at h
    cases z with
    | ex c g v s' => exact h
    | ok fl s' => exact fun w' H' σ' st R' => c fl w' σ' H' s' st (SatS.run R' h st)
theorem SatS.tgt {w : W} {σ : L2.St} {H : Hp} {s : S} {m : M Unit} {D : Ends} (h : SatS a Φ w σ H s (seqT m b) D) (hx : ∀ c g v s', m Φ s ≠ some (.ex c g v s')) : SatT a Φ w σ σ H s sl m fun σ' H' => TSs a Φ b D σ' H' := by
  obtain ⟨R, h⟩ := h
  refine ⟨R, ?_⟩
  unfold seqT bnd at h
  cases e : m Φ s with
  | none => rw [e] at h; exact h.elim
  | some z =>
    rw [e] at h
    cases z with
    | ex c g v s' => exact hx c g v s' e
    | ok fl s' => exact fun w' H' σ' st R' _ => ⟨w', s', SatS.run R' h st⟩
/-- targets raise nothing -/
def NoEx (f : U → M Unit) : Prop := ∀ u Φ s c g v s', f u Φ s ≠ some (.ex c g v s')
theorem ss_for (hp : PassesOwn (model X.prog X.w) X.A X.env X.xe) (hc : X.calm = true) (hi : SI X a Φ tg iter mi) (hg : SG X a Φ sl tg f) (hf : NoEx f) (hb : SB X a Φ body b) (hs : ∀ x, foldedSetIterable iter X.env x = pure x) : SS X a Φ (.For tg iter body [] pos) (sFor mi f b) :=
  PS.imp (ps_for hp hc hi hg hb hs) fun D σ H q => TSs.one q fun w0 H0 s0 us J hJ k => by
    obtain ⟨G, Y, hw, hG, hY⟩ := hJ
    refine for_it hw (D := D) (tb := TSs a Φ b) (g := fun v σ H Q => ∃ w s u, RU a.K a.cls w H u v ∧ SatT a Φ w σ σ H s sl (f u) Q) (fun i σ H => ∃ w s, Stp w0 H0 w H ∧ SatS a Φ w σ H s (forL (fun u => seqT (f u) b) (us.drop i)) D) ⟨w0, s0, Stp.refl, by simpa using k⟩ (fun i σ H _ ⟨w, s, st, _⟩ => hG w H st) (fun i x σ H H' hi ⟨w, s, st, h⟩ hy => ?_) fun σ H ⟨w, s, st, h⟩ => ?_
    · obtain ⟨w2, u, st2, R2, hu, ru⟩ := hY i H x H' hi hy a w s.env s.hp σ rfl rfl st h.1
      have hd : us.drop i = u :: us.drop (i + 1) := by
        have hlt := (List.getElem?_eq_some_iff.mp hu).1
        rw [List.drop_eq_getElem_cons hlt]
        congr 1
        exact Option.some.inj ((List.getElem?_eq_getElem hlt).symm.trans hu)
      rw [hd] at h
      have h2 : SatS a Φ w2 σ H' s (forL (fun u => seqT (f u) b) (u :: us.drop (i + 1))) D := SatS.run R2 h.2 st2
      refine ⟨w2, s, u, ru, SatS.tgt (SatS.thenF h2 fun fl w' σ' H2 s' st' h' => ?_) (hf u Φ s)⟩
      have st3 := (st.trans st2).trans st'
      cases fl with
      | nx => exact ⟨w', s', st3, h'⟩
      | ct => exact ⟨w', s', st3, h'⟩
      | bk => exact h'.2 w' H2 σ' Stp.refl h'.1
      | rt v => exact h'.2 w' H2 σ' Stp.refl h'.1
    · rw [List.drop_length] at h
      exact SatS.here h
end
end EL
set_option Elab.async false
set_option linter.all false
set_option maxRecDepth 100000
/-! EC9: list comprehensions. -/
namespace EL
open PySem PySem.Spec PyProof.Rows L2

/-- an activation with one more object that stays -/
abbrev Act.pin (a : Act) (p : Addr) (o : HO) : Act := { a with H0 := upd a.H0 p o }
/-- .. in which nothing is raised -/
abbrev Act.nox (a : Act) : Act := { a with E := fun _ _ _ _ => False }
section
variable {a b : Act} {w w' : W} {env env' : List SV} {hp hp' : List EO} {σ : L2.St} {H H' : Hp} {p : Addr} {o o' : HO}
/-- what a new address is to an activation -/
structure New (a : Act) (p : Addr) : Prop where
  h : a.H0 p = none
  f : ¬ a.F0 p
  r : p ∉ a.ρ0
theorem Rel.isNew (R : Rel a w env hp σ H) (h : H p = none) : New a p :=
  ⟨R.fresh0 h, fun z => R.frz p (R.Fpre p z) h, fun z => R.cell_there (R.pre_mem z) h⟩
theorem Rel.act (R : Rel a w env hp σ H) (h1 : b.K = a.K) (h2 : b.cls = a.cls) (h3 : b.F0 = a.F0) (h4 : b.ρ0 = a.ρ0) (h5 : b.H0 = a.H0) : Rel b w env hp σ H := by
  refine ⟨R.len, fun i s e => by rw [h1, h2]; exact R.slot i s e, fun i s p e ho hq => by rw [h5]; exact R.own i s p e ho hq, R.apart, R.clen, R.cnd, fun i o p e hq => by rw [h1, h2]; exact R.cell i o p e hq, R.cellF, fun p hp => by rw [h4, h5]; exact R.cell0 p hp, fun i p h => R.pre i p (by rw [← h4]; exact h), fun x o hx hm => R.frame x o (by rw [← h5]; exact hx) (by rw [← h4]; exact hm), R.frz, fun x hx => by rw [h3, h5]; exact R.F0 x hx, fun x hx => R.Fpre x (by rw [← h3]; exact hx)⟩
theorem Rel.nox (R : Rel a w env hp σ H) : Rel a.nox w env hp σ H := R.act rfl rfl rfl rfl rfl
theorem Rel.ofNox (R : Rel a.nox w env hp σ H) : Rel a w env hp σ H := R.act rfl rfl rfl rfl rfl
/-- an object that is nobody's, kept aside -/
theorem Rel.toPin (R : Rel a w env hp σ H) (hn : H p = none) : Rel (a.pin p o) w env hp σ (upd H p o) ∧ Stp w H w (upd H p o) := by
  have ne : ∀ {x : Addr}, H x ≠ none → x ≠ p := fun hx z => hx (by rw [z]; exact hn)
  have st : Stp w H w (upd H p o) := ⟨fun _ h => h, fun _ _ h => h, fun x hx => upd_ne (ne (R.frz x hx))⟩
  have own' : ∀ {i : Nat} {s : SV} {q : Addr}, env[i]? = some s → isOwn s = true → σ[i]? = some (some (.ref q)) → q ≠ p := fun {i s q} e h hq => by
    obtain ⟨q', h1, h2⟩ := R.slot_there e h
    rw [h1] at hq; cases hq
    exact ne h2
  refine ⟨⟨R.len, fun i s e => (R.slot i s e).mono st fun h q hq => upd_ne (own' e h hq), fun i s q e h hq => ?_, R.apart, R.clen, R.cnd, fun i u q hi hq => (R.cell i u q hi hq).mono st (upd_ne (ne (R.cell_there (List.mem_of_getElem? hq)))), R.cellF, fun q hq => ?_, R.pre, fun x u hx hm => ?_, fun x hx => ?_, fun x hx => ?_, R.Fpre⟩, st⟩
  · obtain ⟨q1, q2, q3⟩ := R.own i s q e h hq
    exact ⟨q1, q2, (upd_ne (own' e h hq)).trans q3⟩
  · rcases R.cell0 q hq with z | z
    · exact .inl z
    · exact .inr ((upd_ne (ne (R.cell_there hq))).trans z)
  · by_cases hxp : x = p
    · subst hxp
      have hx' : upd a.H0 x o x = some u := hx
      rw [upd_same] at hx'; cases hx'; exact upd_same
    · have hx' : upd a.H0 p o x = some u := hx
      rw [upd_ne hxp] at hx'
      rw [upd_ne hxp]; exact R.frame x u hx' hm
  · rw [upd_ne (ne (R.frz x hx))]; exact R.frz x hx
  · rcases R.F0 x hx with z | z
    · exact .inl z
    · exact .inr ((upd_ne (ne (R.frz x hx))).trans z)
theorem New.out (n : New a p) (R : Rel (a.pin p o) w env hp σ H) : H p = some o ∧ ¬ w.F p ∧ p ∉ w.ρ ∧ ∀ (i : Nat) (s : SV) (q : Addr), env[i]? = some s → isOwn s = true → σ[i]? = some (some (.ref q)) → q ≠ p := by
  refine ⟨R.frame p o upd_same n.r, fun z => ?_, fun z => ?_, fun i s q e h hq z => ?_⟩
  · rcases R.F0 p z with z | z
    · exact n.f z
    · have z' : upd a.H0 p o p = none := z
      rw [upd_same] at z'; cases z'
  · rcases R.cell0 p z with z | z
    · exact n.r z
    · have z' : upd a.H0 p o p = none := z
      rw [upd_same] at z'; cases z'
  · subst z
    have z' : upd a.H0 q o q = none := (R.own i s q e h hq).2.2
    rw [upd_same] at z'; cases z'
theorem Rel.rePin (R : Rel (a.pin p o) w env hp σ H) (n : New a p) : Rel (a.pin p o') w env hp σ (upd H p o') ∧ Stp w H w (upd H p o') := by
  obtain ⟨n1, n2, n3, n4⟩ := n.out R
  have st : Stp w H w (upd H p o') := ⟨fun _ h => h, fun _ _ h => h, fun x hx => upd_ne fun z => n2 (z ▸ hx)⟩
  have back : ∀ {x : Addr}, x ≠ p → upd a.H0 p o x = upd a.H0 p o' x := fun {x} h => by rw [upd_ne h, upd_ne h]
  refine ⟨⟨R.len, fun i s e => (R.slot i s e).mono st fun h q hq => upd_ne (n4 i s q e h hq), fun i s q e h hq => ?_, R.apart, R.clen, R.cnd, fun i u q hi hq => (R.cell i u q hi hq).mono st (upd_ne fun z => n3 (z ▸ List.mem_of_getElem? hq)), R.cellF, fun q hq => ?_, R.pre, fun x u hx hm => ?_, fun x hx => ?_, fun x hx => ?_, R.Fpre⟩, st⟩
  · obtain ⟨q1, q2, q3⟩ := R.own i s q e h hq
    exact ⟨q1, q2, (back (n4 i s q e h hq)).symm.trans q3⟩
  · rcases R.cell0 q hq with z | z
    · exact .inl z
    · exact .inr ((back fun e => n3 (e ▸ hq)).symm.trans z)
  · by_cases hxp : x = p
    · subst hxp
      have hx' : upd a.H0 x o' x = some u := hx
      rw [upd_same] at hx'; cases hx'; exact upd_same
    · rw [upd_ne hxp]
      exact R.frame x u ((back hxp).trans hx) hm
  · rw [upd_ne (show x ≠ p from fun z => n2 (z ▸ hx))]; exact R.frz x hx
  · rcases R.F0 x hx with z | z
    · exact .inl z
    · exact .inr ((back fun e => n2 (e ▸ hx)).symm.trans z)
theorem Rel.unPin {sv : SV} (R : Rel (a.pin p o) w env hp σ H) (n : New a p) (ho : isOwn sv = true) (hs : SlotOk a.K a.cls w H sv (some (some (.ref p)))) : Pend a w env hp σ H sv p := by
  obtain ⟨n1, n2, n3, n4⟩ := n.out R
  have hl := R.len
  have out : ∀ {x : Addr}, x ≠ p → upd a.H0 p o x = a.H0 x := fun {x} h => upd_ne h
  have old : ∀ {i : Nat} {s : SV}, env[i]? = some s → (σ ++ [some (V.ref p)])[i]? = σ[i]? := fun {i s} e => by
    have := (List.getElem?_eq_some_iff.mp e).1
    rw [List.getElem?_append_left (by omega)]
  have last : (σ ++ [some (V.ref p)])[env.length]? = some (some (.ref p)) := by rw [hl]; exact app_last
  refine ⟨ho, ⟨by simp [hl], fun i s e => ?_, fun i s q e h hq => ?_, fun i j s t q e h hq e' h' hq' => ?_, R.clen, R.cnd, R.cell, R.cellF, fun q hq => ?_, R.pre, fun x u hx hm => ?_, R.frz, fun x hx => ?_, R.Fpre⟩⟩
  · rcases app_some e with e1 | ⟨z1, z2⟩
    · rw [old e1]; exact R.slot i s e1
    · rw [z1, z2, last]; exact hs
  · rcases app_some e with e1 | ⟨z1, z2⟩
    · rw [old e1] at hq
      obtain ⟨q1, q2, q3⟩ := R.own i s q e1 h hq
      exact ⟨q1, q2, (out (n4 i s q e1 h hq)).symm.trans q3⟩
    · rw [z1, last] at hq; cases hq
      exact ⟨n2, n3, n.h⟩
  · rcases app_some e with e1 | ⟨z1, z2⟩
    · rw [old e1] at hq
      rcases app_some e' with e2 | ⟨z1, z2⟩
      · rw [old e2] at hq'; exact R.apart i j s t q e1 h hq e2 h' hq'
      · rw [z1, last] at hq'; cases hq'
        exact absurd rfl (n4 i s _ e1 h hq)
    · rw [z1, last] at hq; cases hq
      rcases app_some e' with e2 | ⟨z3, z4⟩
      · rw [old e2] at hq'; exact absurd rfl (n4 j t _ e2 h' hq')
      · rw [z1, z3]
  · rcases R.cell0 q hq with z | z
    · exact .inl z
    · exact .inr ((out fun e => n3 (e ▸ hq)).symm.trans z)
  · by_cases hxp : x = p
    · subst hxp; rw [n.h] at hx; cases hx
    · exact R.frame x u ((out hxp).trans hx) hm
  · rcases R.F0 x hx with z | z
    · exact .inl z
    · exact .inr ((out fun e => n2 (e ▸ hx)).symm.trans z)

/-! ### slots forgotten and taken again -/
def wipeE (env : List SV) : List Nat → List SV
  | [] => env
  | v :: vs => (wipeE env vs).set v .no
theorem Rel.wipe (R : Rel a w env hp σ H) : ∀ vs : List Nat, Rel a w (wipeE env vs) hp (L2.wipe σ vs) H
  | [] => R
  | v :: vs => (Rel.wipe R vs).wipeV
/-- the slots vs as they were: values alone -/
def keepV : Option SV → SV
  | some (.val u) => .val u
  | _ => .no
def backE (env0 env : List SV) : List Nat → List SV
  | [] => env
  | v :: vs => (backE env0 env vs).set v (keepV env0[v]?)
theorem wipe_set {σ : L2.St} : ∀ (vs : List Nat) (j : Nat), j ∉ vs → (L2.wipe σ vs)[j]? = σ[j]?
  | [], _, _ => rfl
  | v :: vs, j, h => by
    unfold L2.wipe
    rw [List.getElem?_set_ne fun z => h (by simp [z]), wipe_set vs j fun z => h (List.mem_cons_of_mem _ z)]
theorem backE_len {env0 env : List SV} : ∀ vs : List Nat, (backE env0 env vs).length = env.length
  | [] => rfl
  | v :: vs => by unfold backE; rw [List.length_set, backE_len vs]
theorem backE_out {env0 env : List SV} : ∀ (vs : List Nat) (j : Nat), j ∉ vs → (backE env0 env vs)[j]? = env[j]?
  | [], _, _ => rfl
  | v :: vs, j, h => by
    unfold backE
    rw [List.getElem?_set_ne fun z => h (by simp [z]), backE_out vs j fun z => h (List.mem_cons_of_mem _ z)]
theorem backE_in {env0 env : List SV} : ∀ (vs : List Nat) (j : Nat) (s : SV), j ∈ vs → (backE env0 env vs)[j]? = some s → s = keepV env0[j]?
  | [], _, _, h, _ => by simp at h
  | v :: vs, j, s, h, e => by
    unfold backE at e
    by_cases hj : j = v
    · subst hj
      have il : j < (backE env0 env vs).length := by have := (List.getElem?_eq_some_iff.mp e).1; rw [List.length_set] at this; exact this
      rw [List.getElem?_set_self il] at e; cases e; rfl
    · rw [List.getElem?_set_ne (Ne.symm hj)] at e
      rcases List.mem_cons.mp h with z | z
      · exact absurd z hj
      · exact backE_in vs j s z e
theorem Rel.unwipe {w0 : W} {H0 : Hp} {env0 : List SV} {hp0 : List EO} {vs : List Nat} (R0 : Rel b w0 env0 hp0 σ H0) (h1 : b.K = a.K) (h2 : b.cls = a.cls) (st : Stp w0 H0 w H) (R : Rel a w env hp (L2.wipe σ vs) H) : Rel a w (backE env0 env vs) hp σ H := by
  have own' : ∀ {i : Nat} {s : SV}, (backE env0 env vs)[i]? = some s → isOwn s = true → i ∉ vs ∧ env[i]? = some s := fun {i s} e h => by
    by_cases hi : i ∈ vs
    · have := backE_in vs i s hi e
      subst this
      unfold keepV at h
      split at h <;> cases h
    · exact ⟨hi, (backE_out vs i hi).symm.trans e⟩
  have hlen : σ.length = env.length := by have := R.len; rw [L2.wipe_length] at this; exact this.symm
  refine ⟨by rw [backE_len]; exact hlen.symm, fun i s e => ?_, fun i s q e h hq => ?_, fun i j s t q e h hq e' h' hq' => ?_, R.clen, R.cnd, R.cell, R.cellF, R.cell0, R.pre, R.frame, R.frz, R.F0, R.Fpre⟩
  · by_cases hi : i ∈ vs
    · have := backE_in vs i s hi e
      subst this
      unfold keepV
      split
      · rename_i u hu
        obtain ⟨x, q1, q2⟩ := R0.slot i _ hu
        rw [h1, h2] at q2
        exact ⟨x, q1, q2.mono st⟩
      · trivial
    · rw [backE_out vs i hi] at e
      have q := R.slot i s e
      rw [wipe_set vs i hi] at q
      exact q
  · obtain ⟨hi, e1⟩ := own' e h
    exact R.own i s q e1 h ((wipe_set vs i hi).trans hq)
  · obtain ⟨hi, e1⟩ := own' e h
    obtain ⟨hj, e2⟩ := own' e' h'
    exact R.apart i j s t q e1 h ((wipe_set vs i hi).trans hq) e2 h' ((wipe_set vs j hj).trans hq')
end
end EL
set_option Elab.async false
set_option linter.all false
set_option maxRecDepth 100000
/-! EC10: list comprehensions, of one clause and of two. -/
namespace EL
open PySem PySem.Spec PyProof.Rows L2

def wipeM (vs : List Nat) : M Unit := fun _ s => some (.ok () ⟨wipeE s.env vs, s.hp⟩)
/-- a turn: the target takes u, the tests, then k -/
def turnM (f : U → M Unit) (t : M Bool) (vs : List Nat) (u : U) (yes no : M (List U)) : M (List U) := bnd (wipeM vs) fun _ => bnd (f u) fun _ => bnd t fun b => if b = true then yes else no
def pushM (elt : M U) (acc : List U) : M (List U) := bnd elt fun v => if acc.length < line then ret (acc ++ [v]) else fail
def lcL (f : U → M Unit) (t : M Bool) (elt : M U) (vs : List Nat) : List U → List U → M (List U)
  | [], acc => ret acc
  | u :: us, acc => bnd (turnM f t vs u (pushM elt acc) (ret acc)) fun acc' => lcL f t elt vs us acc'
def oLC (mi : M (List U)) (f : U → M Unit) (t : M Bool) (elt : M U) (vs : List Nat) : M SV := bnd mi fun us => fun Φ s => match lcL f t elt vs us [] Φ s with
  | some (.ok acc s') => some (.ok (.ol acc) ⟨backE s.env (wipeE s'.env vs) vs, s'.hp⟩)
  | _ => none

/-- acts of a block -/
structure InB (a b : Act) : Prop where
  K : b.K = a.K
  cls : b.cls = a.cls
  E : b.E = fun _ _ _ _ => False
theorem PE.ex {X : Cx} {e : Expr} {α : Type} {C : α → Prop} {t : α → TE} (h : ∀ x, C x → PE X e (t x)) : PE X e fun σ H Q => ∃ x, C x ∧ t x σ H Q := ⟨fun pins s σ H Q I ⟨x, c, q⟩ => (h x c).run pins s σ H Q I q⟩
theorem PTs.ex {X : Cx} {e : List Expr} {α : Type} {C : α → Prop} {t : α → TT} (h : ∀ x, C x → PTs X e (t x)) : PTs X e fun σ H Q => ∃ x, C x ∧ t x σ H Q := ⟨fun pins s σ H Q I ⟨x, c, q⟩ => (h x c).run pins s σ H Q I q⟩
theorem PG.ex {X : Cx} {e : Expr} {α : Type} {C : α → Prop} {t : α → TG} (h : ∀ x, C x → PG X e (t x)) : PG X e fun v σ H Q => ∃ x, C x ∧ t x v σ H Q := ⟨fun pins s σ H v u Q I r ⟨x, c, q⟩ => (h x c).run pins s σ H v u Q I r q⟩
theorem PI.ex {X : Cx} {tg e : Expr} {α : Type} {C : α → Prop} {t : α → TI} (h : ∀ x, C x → PI X tg e (t x)) : PI X tg e fun σ H Q => ∃ x, C x ∧ t x σ H Q := ⟨fun pins s σ H Q I ⟨x, c, q⟩ => (h x c).run pins s σ H Q I q⟩
def STs (X : Cx) (a : Act) (Φ : Phi) (ifs : List Expr) (t : M Bool) : Prop := PTs X ifs (TR a Φ t relB)
theorem sts_nil {X : Cx} {a : Act} {Φ : Phi} : STs X a Φ [] (ret true) := ⟨fun pins s σ H Q I ⟨w, s', R, h⟩ => pts_nil.run pins s σ H Q I (h w H true Stp.refl R rfl)⟩
theorem sts_one {X : Cx} {a : Act} {Φ : Phi} {e : Expr} {t : M Bool} (h : STt X a Φ e t) : STs X a Φ [e] t := pts_one h

theorem wipe_ext {σ σ' : L2.St} {vs : List Nat} (hl : σ'.length = σ.length) (h : ∀ j, j ∉ vs → σ'[j]? = σ[j]?) : L2.wipe σ' vs = L2.wipe σ vs := by
  have in_none : ∀ (τ : L2.St) (us : List Nat) (j : Nat), j ∈ us → j < τ.length → (L2.wipe τ us)[j]? = some none := fun τ us => by
    induction us with
    | nil => intro j h; simp at h
    | cons v us ih =>
      intro j h hl
      unfold L2.wipe
      by_cases hj : j = v
      · subst hj; rw [List.getElem?_set_self (by rw [L2.wipe_length]; exact hl)]
      · rw [List.getElem?_set_ne (Ne.symm hj)]
        rcases List.mem_cons.mp h with z | z
        · exact absurd z hj
        · exact ih j z hl
  apply List.ext_getElem?
  intro j
  by_cases hj : j ∈ vs
  · by_cases hlt : j < σ.length
    · rw [in_none σ' vs j hj (by omega), in_none σ vs j hj hlt]
    · rw [List.getElem?_eq_none (by rw [L2.wipe_length]; omega), List.getElem?_eq_none (by rw [L2.wipe_length]; omega)]
  · rw [wipe_set vs j hj, h j hj, wipe_set vs j hj]
theorem wipeE_len (e : List SV) : ∀ vs : List Nat, (wipeE e vs).length = e.length
  | [] => rfl
  | v :: vs => by unfold wipeE; rw [List.length_set, wipeE_len e vs]
theorem wipeE_out {e : List SV} : ∀ (vs : List Nat) (j : Nat), j ∉ vs → (wipeE e vs)[j]? = e[j]?
  | [], _, _ => rfl
  | v :: vs, j, h => by
    unfold wipeE
    rw [List.getElem?_set_ne fun z => h (by simp [z]), wipeE_out vs j fun z => h (List.mem_cons_of_mem _ z)]
theorem wipeE_ext {e e' : List SV} {vs : List Nat} (hl : e'.length = e.length) (h : ∀ j, j ∉ vs → e'[j]? = e[j]?) : wipeE e' vs = wipeE e vs := by
  have in_none : ∀ (τ : List SV) (us : List Nat) (j : Nat), j ∈ us → j < τ.length → (wipeE τ us)[j]? = some .no := fun τ us => by
    induction us with
    | nil => intro j h; simp at h
    | cons v us ih =>
      intro j h hl
      unfold wipeE
      by_cases hj : j = v
      · subst hj; rw [List.getElem?_set_self (by rw [wipeE_len]; exact hl)]
      · rw [List.getElem?_set_ne (Ne.symm hj)]
        rcases List.mem_cons.mp h with z | z
        · exact absurd z hj
        · exact ih j z hl
  apply List.ext_getElem?
  intro j
  by_cases hj : j ∈ vs
  · by_cases hlt : j < e.length
    · rw [in_none e' vs j hj (by omega), in_none e vs j hj hlt]
    · rw [List.getElem?_eq_none (by rw [wipeE_len]; omega), List.getElem?_eq_none (by rw [wipeE_len]; omega)]
  · rw [wipeE_out vs j hj, h j hj, wipeE_out vs j hj]
theorem wipeE_wipe {e : List SV} {vs1 vs : List Nat} (hs : ∀ j, j ∈ vs1 → j ∈ vs) : wipeE (wipeE e vs1) vs = wipeE e vs :=
  wipeE_ext (by rw [wipeE_len]) fun j hj => wipeE_out vs1 j fun z => hj (hs j z)
theorem wipe_same {σ σ' : L2.St} {sl : List Nat} {vs : List Nat} (hs : ∀ j, j ∈ sl → j ∈ vs) (sb : SameBut sl (L2.wipe σ vs) σ') : L2.wipe σ' vs = L2.wipe σ vs :=
  wipe_ext (by rw [sb.1, L2.wipe_length]) fun j hj => by rw [sb.2 j fun z => hj (hs j z), wipe_set vs j hj]
theorem wipe_wipe {σ : L2.St} {vs1 vs : List Nat} (hs : ∀ j, j ∈ vs1 → j ∈ vs) : L2.wipe (L2.wipe σ vs1) vs = L2.wipe σ vs :=
  wipe_ext (by rw [L2.wipe_length]) fun j hj => wipe_set vs1 j fun z => hj (hs j z)

section
variable {a : Act} {Φ : Phi} {w : W} {σ : L2.St} {H : Hp} {s : S} {α : Type}
/-- run on: what a term leads to, wherever it starts -/
def Run (a : Act) (Φ : Phi) (w : W) (σ : L2.St) (H : Hp) (s : S) (m : M α) (P : α → W → Hp → S → Prop) : Prop := Rel a w s.env s.hp σ H ∧ match m Φ s with
  | some (.ok x s') => P x w H s'
  | _ => False
/-- the continuation: what is left to run gives c -/
def Leads (Φ : Phi) (s : S) (m : M α) (C : α → S → Prop) : Prop := match m Φ s with
  | some (.ok x s') => C x s'
  | _ => False
theorem Leads.bnd {β : Type} {m : M β} {k : β → M α} {C : α → S → Prop} (h : Leads Φ s (EL.bnd m k) C) : Leads Φ s m fun x s' => Leads Φ s' (k x) C := by
  unfold Leads EL.bnd at h
  unfold Leads
  cases e : m Φ s with
  | none => rw [e] at h; exact h
  | some z =>
    rw [e] at h
    cases z with
    | ok x s' => exact h
    | ex c g v s' => exact h
/-- a term that leads somewhere, in HandS's words -/
theorem Leads.tr {γ : Type} {m : M α} {C : α → S → Prop} {rel : W → Hp → α → γ → Prop} {Q : γ → Hp → Prop} (R : Rel a w s.env s.hp σ H) (h : Leads Φ s m C)
    (f : ∀ (w' : W) (H' : Hp) (x : α) (y : γ) (s' : S), Stp w H w' H' → Rel a w' s'.env s'.hp σ H' → rel w' H' x y → C x s' → Q y H') : TR a Φ m rel σ H Q := by
  refine ⟨w, s, R, ?_⟩
  unfold Leads at h
  cases e : m Φ s with
  | none => rw [e] at h; exact h
  | some z =>
    rw [e] at h
    cases z with
    | ok x s' => exact fun w' H' y st R' r => f w' H' x y s' st R' r h
    | ex c g v s' => exact h.elim
theorem Leads.tg {m : M Unit} {C : Unit → S → Prop} {sl : List Nat} {Q : L2.St → Hp → Prop} (R : Rel a w s.env s.hp σ H) (h : Leads Φ s m C)
    (f : ∀ (w' : W) (H' : Hp) (σ' : L2.St) (s' : S), Stp w H w' H' → Rel a w' s'.env s'.hp σ' H' → SameBut sl σ σ' → C () s' → Q σ' H') : SatT a Φ w σ σ H s sl m Q := by
  refine ⟨R, ?_⟩
  unfold Leads at h
  cases e : m Φ s with
  | none => rw [e] at h; exact h
  | some z =>
    rw [e] at h
    cases z with
    | ok x s' => exact fun w' H' σ' st R' r => f w' H' σ' s' st R' r h
    | ex c g v s' => exact h.elim
end

section
variable {X : Cx} {a : Act} {Φ : Phi} {elt tg iter tg1 iter1 : Expr} {ifs ifs1 : List Expr} {scope : Scope} {own : List (Str × Nat)} {mi mi1 : M (List U)} {f f1 : U → M Unit} {t t1 : M Bool} {m : M U} {pos : Pos} {sl sl1 : List Nat}
def tWi (a : Act) (Φ : Phi) (mi : M (List U)) : TI := fun σ H R => TR a Φ mi (relJ a) σ H fun J H' => R J H'
def tWx (a : Act) (Φ : Phi) (mi : M (List U)) : TI := fun σ H R => ∃ b, InB a b ∧ TR b Φ mi (relJ b) σ H fun J H' => R J H'
def tGx (a : Act) (Φ : Phi) (sl : List Nat) (f : U → M Unit) : TG := fun v σ H Q => ∃ b, InB a b ∧ ∃ w s u, RU b.K b.cls w H u v ∧ SatT b Φ w σ σ H s sl (f u) Q
def tTx (a : Act) (Φ : Phi) (t : M Bool) : TT := fun σ H Q => ∃ b, InB a b ∧ TR b Φ t relB σ H Q
def tEx (a : Act) (Φ : Phi) (m : M U) : TE := fun σ H Q => ∃ b, InB a b ∧ TR b Φ m (relU b) σ H Q
theorem lc_key {vs : List Nat} {σ : L2.St} {H : Hp} {Q : V → Hp → Prop} (hsl : ∀ j, j ∈ sl → j ∈ vs) (q : TRO a Φ (oLC mi f t m vs) σ H Q) : tLc (tWi a Φ mi) (tGx a Φ sl f) (tTx a Φ t) (tEx a Φ m) vs σ H Q := by
  refine TRO.one q fun w0 H0 s0 us J hJ R0 k D hD => ?_
  obtain ⟨G, Y, hw, hG, hY⟩ := hJ
  have k : Leads Φ s0 (lcL f t m vs us []) fun acc s' => ∀ (w' : W) (H' : Hp) (p : Addr), Stp w0 H0 w' H' → Pend a w' (backE s0.env (wipeE s'.env vs) vs) s'.hp σ H' (.ol acc) p → Q (.ref p) H' := by
    unfold Leads
    revert k
    cases lcL f t m vs us [] Φ s0 with
    | none => exact fun k => k
    | some z => cases z with
      | ok x s' => exact fun k => k
      | ex c g v s' => exact fun k => k
  have nD := R0.isNew hD
  obtain ⟨R1, st1⟩ := R0.toPin (o := .lst []) hD
  refine lc_it hw (g := fun v σ H Q => ∃ b, InB a b ∧ ∃ w s u, RU b.K b.cls w H u v ∧ SatT b Φ w σ σ H s sl (f u) Q) (tt := fun σ H Q => ∃ b, InB a b ∧ TR b Φ t relB σ H Q) (te := fun σ H Q => ∃ b, InB a b ∧ TR b Φ m (relU b) σ H Q)
    (fun i H => ∃ w s acc accV, Stp w0 H0 w H ∧ Rel (a.pin D (.lst accV)) w (wipeE s.env vs) s.hp (L2.wipe σ vs) H ∧ RUs a.K a.cls w H acc accV ∧ Leads Φ s (lcL f t m vs (us.drop i) acc) fun acc s' => ∀ (w' : W) (H' : Hp) (p : Addr), Stp w0 H0 w' H' → Pend a w' (backE s0.env (wipeE s'.env vs) vs) s'.hp σ H' (.ol acc) p → Q (.ref p) H')
    ⟨w0, s0, [], [], st1, R1.wipe vs, .nil, by simpa using k⟩ (fun i H _ ⟨w, s, acc, accV, st, _⟩ => hG w H st) ?_ ?_
  · rintro i x H H' hi ⟨w, s, acc, accV, st, R, ra, k⟩ hy
    obtain ⟨w2, u, st2, R2, hu, ru⟩ := hY i H x H' hi hy (a.pin D (.lst accV)).nox w (wipeE s.env vs) s.hp (L2.wipe σ vs) rfl rfl st R.nox
    have hd : us.drop i = u :: us.drop (i + 1) := by
      have hlt := (List.getElem?_eq_some_iff.mp hu).1
      rw [List.drop_eq_getElem_cons hlt]
      congr 1
      exact Option.some.inj ((List.getElem?_eq_getElem hlt).symm.trans hu)
    rw [hd] at k
    have ib : InB a (a.pin D (.lst accV)).nox := ⟨rfl, rfl, rfl⟩
    have k1 := Leads.bnd k
    have k2 : Leads Φ ⟨wipeE s.env vs, s.hp⟩ (f u) fun _ s1 => Leads Φ s1 (bnd t fun b => if b = true then pushM m acc else ret acc) fun acc' s' => Leads Φ s' (lcL f t m vs (us.drop (i + 1)) acc') _ := Leads.bnd (m := f u) k1
    refine ⟨_, ib, w2, ⟨wipeE s.env vs, s.hp⟩, u, ru, Leads.tg R2 k2 fun w3 H3 σ3 s3 st3 R3 sb k3 => ?_⟩
    have hws := wipe_same hsl sb
    refine ⟨hws, _, ib, Leads.tr (rel := relB) R3 (Leads.bnd k3) fun w4 H4 b c s4 st4 R4 e4 k4 => ?_⟩
    have e5 : b = c := e4
    subst e5
    have st5 := ((st.trans st2).trans st3).trans st4
    cases b with
    | false =>
      rw [if_neg Bool.false_ne_true]
      have R5 := (R4.ofNox).wipe vs
      rw [hws] at R5
      exact ⟨w4, s4, acc, accV, st5, R5, ra.mono ((st2.trans st3).trans st4), k4⟩
    | true =>
      rw [if_pos rfl]
      refine ⟨_, ib, Leads.tr (rel := relU _) R4 (Leads.bnd (m := m) k4) fun w6 H6 v y s6 st6 R6 rv k6 => ?_⟩
      have R6' := R6.ofNox
      obtain ⟨d1, d2, d3, d4⟩ := nD.out R6'
      have hlen : acc.length = accV.length := ra.length
      by_cases hl : acc.length < line
      · rw [if_pos hl] at k6
        obtain ⟨R7, st7⟩ := R6'.rePin (o' := .lst (accV ++ [y])) nD
        have R8 := R7.wipe vs
        rw [hws] at R8
        exact ⟨accV, d1, by rw [← hlen]; exact hl, w6, s6, acc ++ [v], accV ++ [y], (st5.trans st6).trans st7, R8, ((ra.mono (((st2.trans st3).trans st4).trans st6)).append (.cons rv .nil)).mono st7, k6⟩
      · rw [if_neg hl] at k6; exact k6.elim
  · rintro H ⟨w, s, acc, accV, st, R, ra, k⟩
    rw [List.drop_length] at k
    have R2 := Rel.unwipe (a := a.pin D (.lst accV)) R0 rfl rfl st R
    obtain ⟨d1, d2, d3, d4⟩ := nD.out R2
    exact k w H D st (R2.unPin nD rfl ⟨D, rfl, .lst d1 ra⟩)
theorem so_lc (hK : X.K = a.K) (hc : X.calm = true) (hN : X.N.Nodup) (hi : SI X a Φ tg iter mi) (ok : BlkOk X.N X.env.scope scope own) (hsl : ∀ j, j ∈ sl → j ∈ own.map (·.2))
    (hg : ∀ (s : Shared) (H : Hp) (C : Addr) (cl : List (Str × Addr)) (fp : List Addr) (b : Act), InB a b → SG (X.blk s H scope (compEnvC scope cl C X.env) fp) b Φ sl tg f)
    (ht : ∀ (s : Shared) (H : Hp) (C : Addr) (cl : List (Str × Addr)) (fp : List Addr) (b : Act), InB a b → STs (X.blk s H scope (compEnvC scope cl C X.env) fp) b Φ ifs t)
    (he : ∀ (s : Shared) (H : Hp) (C : Addr) (cl : List (Str × Addr)) (fp : List Addr) (b : Act), InB a b → SE (X.blk s H scope (compEnvC scope cl C X.env) fp) b Φ elt m) (hs : ∀ x, foldedSetIterable iter X.env x = pure x) :
    SO X a Φ (.ListComp elt [⟨tg, iter, ifs, 0⟩] scope pos) (oLC mi f t m (own.map (·.2))) :=
  PE.imp (pe_lc hc hN hi ok (fun s H C cl fp => PG.ex (C := InB a) fun b hb => hg s H C cl fp b hb) (fun s H C cl fp => PTs.ex (C := InB a) fun b hb => ht s H C cl fp b hb) (fun s H C cl fp => PE.ex (C := InB a) fun b hb => he s H C cl fp b hb) hs) fun σ H Q q => lc_key hsl q
theorem ss_lc {i : Nat} {y : Str} {py spos : Pos} (hy : X.N[i]? = some y) (hyl : X.env.scope.names.lookup y = some .local) (hsw : swapsWith (.ListComp elt [⟨tg, iter, ifs, 0⟩] scope pos) (some (.Name y py)) spos.line X.env = pure true) (hK : X.K = a.K) (hc : X.calm = true) (hN : X.N.Nodup) (hi : SI X a Φ tg iter mi) (ok : BlkOk X.N X.env.scope scope own) (hsl : ∀ j, j ∈ sl → j ∈ own.map (·.2))
    (hg : ∀ (s : Shared) (H : Hp) (C : Addr) (cl : List (Str × Addr)) (fp : List Addr) (b : Act), InB a b → SG (X.blk s H scope (compEnvC scope cl C X.env) fp) b Φ sl tg f)
    (ht : ∀ (s : Shared) (H : Hp) (C : Addr) (cl : List (Str × Addr)) (fp : List Addr) (b : Act), InB a b → STs (X.blk s H scope (compEnvC scope cl C X.env) fp) b Φ ifs t)
    (he : ∀ (s : Shared) (H : Hp) (C : Addr) (cl : List (Str × Addr)) (fp : List Addr) (b : Act), InB a b → SE (X.blk s H scope (compEnvC scope cl C X.env) fp) b Φ elt m) (hs : ∀ x, foldedSetIterable iter X.env x = pure x) :
    SS X a Φ (.Assign [.Name y py] (.ListComp elt [⟨tg, iter, ifs, 0⟩] scope pos) spos) (sOwn i (oLC mi f t m (own.map (·.2)))) :=
  PS.imp (ps_setLc hc hN hy hyl hsw hi ok (fun s H C cl fp => PG.ex (C := InB a) fun b hb => hg s H C cl fp b hb) (fun s H C cl fp => PTs.ex (C := InB a) fun b hb => ht s H C cl fp b hb) (fun s H C cl fp => PE.ex (C := InB a) fun b hb => he s H C cl fp b hb) hs) fun D σ H q => lc_key hsl (TSs.own q fun w H s sv p P k => (SatS.store k).2 w H _ Stp.refl (P.store i))
def lc2L (f : U → M Unit) (t : M Bool) (vs : List Nat) (mi1 : M (List U)) (f1 : U → M Unit) (t1 : M Bool) (elt : M U) (vs1 : List Nat) : List U → List U → M (List U)
  | [], acc => ret acc
  | u :: us, acc => bnd (turnM f t vs u (bnd mi1 fun us1 => lcL f1 t1 elt vs1 us1 acc) (ret acc)) fun acc' => lc2L f t vs mi1 f1 t1 elt vs1 us acc'
def oLC2 (mi : M (List U)) (f : U → M Unit) (t : M Bool) (mi1 : M (List U)) (f1 : U → M Unit) (t1 : M Bool) (elt : M U) (vs vs1 : List Nat) : M SV := bnd mi fun us => fun Φ s => match lc2L f t vs mi1 f1 t1 elt vs1 us [] Φ s with
  | some (.ok acc s') => some (.ok (.ol acc) ⟨backE s.env (wipeE s'.env vs) vs, s'.hp⟩)
  | _ => none
theorem lc2_key {vs vs1 : List Nat} {σ : L2.St} {H : Hp} {Q : V → Hp → Prop} (hsl : ∀ j, j ∈ sl → j ∈ vs) (hsl1 : ∀ j, j ∈ sl1 → j ∈ vs1) (hv : ∀ i ∈ vs1, i ∈ vs) (q : TRO a Φ (oLC2 mi f t mi1 f1 t1 m vs vs1) σ H Q) : tLc2 (tWi a Φ mi) (tGx a Φ sl f) (tTx a Φ t) (tWx a Φ mi1) (tGx a Φ sl1 f1) (tTx a Φ t1) (tEx a Φ m) vs vs1 σ H Q := by
  refine TRO.one q fun w0 H0 s0 us J hJ R0 k D hD => ?_
  obtain ⟨G, Y, hw, hG, hY⟩ := hJ
  have k : Leads Φ s0 (lc2L f t vs mi1 f1 t1 m vs1 us []) fun acc s' => ∀ (w' : W) (H' : Hp) (p : Addr), Stp w0 H0 w' H' → Pend a w' (backE s0.env (wipeE s'.env vs) vs) s'.hp σ H' (.ol acc) p → Q (.ref p) H' := by
    unfold Leads
    revert k
    cases lc2L f t vs mi1 f1 t1 m vs1 us [] Φ s0 with
    | none => exact fun k => k
    | some z => cases z with
      | ok x s' => exact fun k => k
      | ex c g v s' => exact fun k => k
  have nD := R0.isNew hD
  obtain ⟨R1, st1⟩ := R0.toPin (o := .lst []) hD
  -- what holds between two turns of the outer loop
  let Pv : Nat → Hp → Prop := fun i H => ∃ w s acc accV, Stp w0 H0 w H ∧ Rel (a.pin D (.lst accV)) w (wipeE s.env vs) s.hp (L2.wipe σ vs) H ∧ RUs a.K a.cls w H acc accV ∧ Leads Φ s (lc2L f t vs mi1 f1 t1 m vs1 (us.drop i) acc) fun acc s' => ∀ (w' : W) (H' : Hp) (p : Addr), Stp w0 H0 w' H' → Pend a w' (backE s0.env (wipeE s'.env vs) vs) s'.hp σ H' (.ol acc) p → Q (.ref p) H'
  refine ⟨fun i m H => m = us.length - i ∧ i ≤ us.length ∧ Pv i H, ⟨us.length, by simp, Nat.zero_le _, w0, s0, [], [], st1, R1.wipe vs, .nil, by simpa using k⟩, ?_⟩
  rintro i mm H ⟨rfl, hi, pv⟩
  by_cases hlt : i < us.length
  · obtain ⟨w, s, acc, accV, st, R, ra, k⟩ := pv
    refine .inr ⟨hw.goes i H hlt (hG w H st), Pv (i + 1), fun H' p' => ⟨us.length - (i + 1), by omega, rfl, hlt, p'⟩, fun x H' y => ?_⟩
    obtain ⟨w2, u, st2, R2, hu, ru⟩ := hY i H x H' hlt (hw.yields i H x H' hlt (hG w H st) y) (a.pin D (.lst accV)).nox w (wipeE s.env vs) s.hp (L2.wipe σ vs) rfl rfl st R.nox
    have hd : us.drop i = u :: us.drop (i + 1) := by
      rw [List.drop_eq_getElem_cons hlt]
      congr 1
      exact Option.some.inj ((List.getElem?_eq_getElem hlt).symm.trans hu)
    rw [hd] at k
    have ib : InB a (a.pin D (.lst accV)).nox := ⟨rfl, rfl, rfl⟩
    have k1 := Leads.bnd k
    have k2 : Leads Φ ⟨wipeE s.env vs, s.hp⟩ (f u) fun _ s1 => Leads Φ s1 (bnd t fun b => if b = true then (bnd mi1 fun us1 => lcL f1 t1 m vs1 us1 acc) else ret acc) fun acc' s' => Leads Φ s' (lc2L f t vs mi1 f1 t1 m vs1 (us.drop (i + 1)) acc') _ := Leads.bnd (m := f u) k1
    refine ⟨_, ib, w2, ⟨wipeE s.env vs, s.hp⟩, u, ru, Leads.tg R2 k2 fun w3 H3 σ3 s3 st3 R3 sb k3 => ?_⟩
    have hws := wipe_same hsl sb
    refine ⟨hws, _, ib, Leads.tr (rel := relB) R3 (Leads.bnd k3) fun w4 H4 b c s4 st4 R4 e4 k4 => ?_⟩
    have e5 : b = c := e4
    subst e5
    have st5 := ((st.trans st2).trans st3).trans st4
    cases b with
    | false =>
      rw [if_neg Bool.false_ne_true]
      have R5 := (R4.ofNox).wipe vs
      rw [hws] at R5
      exact ⟨w4, s4, acc, accV, st5, R5, ra.mono ((st2.trans st3).trans st4), k4⟩
    | true =>
      rw [if_pos rfl]
      refine ⟨_, ib, Leads.tr (rel := relJ _) R4 (Leads.bnd (m := mi1) k4) fun wa Ha us1 J1 sa sta Ra hJ1 ka => ?_⟩
      obtain ⟨G1, Y1, hw1, hG1, hY1⟩ := hJ1
      have st6 := st5.trans sta
      have ra6 := ra.mono (((st2.trans st3).trans st4).trans sta)
      have Rb := (Ra.ofNox).wipe vs1
      let Pi : Nat → Hp → Prop := fun j H => ∃ w s acc accV, Stp w0 H0 w H ∧ Stp wa Ha w H ∧ Rel (a.pin D (.lst accV)) w (wipeE s.env vs1) s.hp (L2.wipe σ3 vs1) H ∧ RUs a.K a.cls w H acc accV ∧ Leads Φ s (lcL f1 t1 m vs1 (us1.drop j) acc) fun acc' s' => Leads Φ s' (lc2L f t vs mi1 f1 t1 m vs1 (us.drop (i + 1)) acc') fun acc s' => ∀ (w' : W) (H' : Hp) (p : Addr), Stp w0 H0 w' H' → Pend a w' (backE s0.env (wipeE s'.env vs) vs) s'.hp σ H' (.ol acc) p → Q (.ref p) H'
      refine ⟨fun j m H => m = us1.length - j ∧ j ≤ us1.length ∧ Pi j H, ⟨us1.length, by simp, Nat.zero_le _, wa, sa, acc, accV, st6, Stp.refl, Rb, ra6, by simpa using ka⟩, ?_⟩
      rintro j kk Hj ⟨rfl, hj, pj⟩
      obtain ⟨w, s, acc, accV, st, sti, R, ra, k⟩ := pj
      by_cases hjl : j < us1.length
      · refine .inr ⟨hw1.goes j Hj hjl (hG1 w Hj sti), Pi (j + 1), fun H' p' => ⟨us1.length - (j + 1), by omega, rfl, hjl, p'⟩, fun x H' y => ?_⟩
        obtain ⟨w2, u, st2, R2, hu, ru⟩ := hY1 j Hj x H' hjl (hw1.yields j Hj x H' hjl (hG1 w Hj sti) y) (a.pin D (.lst accV)).nox w (wipeE s.env vs1) s.hp (L2.wipe σ3 vs1) rfl rfl sti R.nox
        have hd : us1.drop j = u :: us1.drop (j + 1) := by
          rw [List.drop_eq_getElem_cons hjl]
          congr 1
          exact Option.some.inj ((List.getElem?_eq_getElem hjl).symm.trans hu)
        rw [hd] at k
        have ib : InB a (a.pin D (.lst accV)).nox := ⟨rfl, rfl, rfl⟩
        have k1 := Leads.bnd k
        have k2 : Leads Φ ⟨wipeE s.env vs1, s.hp⟩ (f1 u) fun _ s1 => Leads Φ s1 (bnd t1 fun b => if b = true then pushM m acc else ret acc) fun acc' s' => Leads Φ s' (lcL f1 t1 m vs1 (us1.drop (j + 1)) acc') _ := Leads.bnd (m := f1 u) k1
        refine ⟨_, ib, w2, ⟨wipeE s.env vs1, s.hp⟩, u, ru, Leads.tg R2 k2 fun w3 H3 σ4 s3 st3 R3 sb k3 => ?_⟩
        have hws1 := wipe_same hsl1 sb
        refine ⟨hws1, _, ib, Leads.tr (rel := relB) R3 (Leads.bnd k3) fun w4 H4 b c s4 st4 R4 e4 k4 => ?_⟩
        have e5 : b = c := e4
        subst e5
        have stI := (st2.trans st3).trans st4
        cases b with
        | false =>
          rw [if_neg Bool.false_ne_true]
          have R5 := (R4.ofNox).wipe vs1
          rw [hws1] at R5
          exact ⟨w4, s4, acc, accV, st.trans stI, sti.trans stI, R5, ra.mono stI, k4⟩
        | true =>
          rw [if_pos rfl]
          refine ⟨_, ib, Leads.tr (rel := relU _) R4 (Leads.bnd (m := m) k4) fun w6 H6 v y s6 st6 R6 rv k6 => ?_⟩
          have R6' := R6.ofNox
          obtain ⟨d1, d2, d3, d4⟩ := nD.out R6'
          have hlen : acc.length = accV.length := ra.length
          by_cases hl : acc.length < line
          · rw [if_pos hl] at k6
            obtain ⟨R7, st7⟩ := R6'.rePin (o' := .lst (accV ++ [y])) nD
            have R8 := R7.wipe vs1
            rw [hws1] at R8
            have stA := (stI.trans st6).trans st7
            exact ⟨accV, d1, by rw [← hlen]; exact hl, w6, s6, acc ++ [v], accV ++ [y], st.trans stA, sti.trans stA, R8, ((ra.mono (stI.trans st6)).append (.cons rv .nil)).mono st7, k6⟩
          · rw [if_neg hl] at k6; exact k6.elim
      · have ej : j = us1.length := by omega
        subst ej
        refine .inl ⟨hw1.stops Hj (hG1 w Hj sti), ?_⟩
        rw [List.drop_length] at k
        have R9 := R.wipe vs
        rw [wipe_wipe hv, hws, wipeE_wipe hv] at R9
        exact ⟨w, s, acc, accV, st, R9, ra, k⟩
  · have e : i = us.length := by omega
    subst e
    obtain ⟨w, s, acc, accV, st, R, ra, k⟩ := pv
    refine .inl ⟨hw.stops H (hG w H st), ?_⟩
    rw [List.drop_length] at k
    have R2 := Rel.unwipe (a := a.pin D (.lst accV)) R0 rfl rfl st R
    obtain ⟨d1, d2, d3, d4⟩ := nD.out R2
    exact k w H D st (R2.unPin nD rfl ⟨D, rfl, .lst d1 ra⟩)
theorem so_lc2 {vs1 : List Nat} (hK : X.K = a.K) (hc : X.calm = true) (hN : X.N.Nodup) (hi : SI X a Φ tg iter mi) (ok : BlkOk X.N X.env.scope scope own) (hsl : ∀ j, j ∈ sl → j ∈ own.map (·.2)) (hsl1 : ∀ j, j ∈ sl1 → j ∈ vs1) (hv : ∀ i ∈ vs1, i ∈ own.map (·.2))
    (hg : ∀ (s : Shared) (H : Hp) (C : Addr) (cl : List (Str × Addr)) (fp : List Addr) (b : Act), InB a b → SG (X.blk s H scope (compEnvC scope cl C X.env) fp) b Φ sl tg f)
    (ht : ∀ (s : Shared) (H : Hp) (C : Addr) (cl : List (Str × Addr)) (fp : List Addr) (b : Act), InB a b → STs (X.blk s H scope (compEnvC scope cl C X.env) fp) b Φ ifs t)
    (hi1 : ∀ (s : Shared) (H : Hp) (C : Addr) (cl : List (Str × Addr)) (fp : List Addr) (b : Act), InB a b → SI (X.blk s H scope (compEnvC scope cl C X.env) fp) b Φ tg1 iter1 mi1)
    (hg1 : ∀ (s : Shared) (H : Hp) (C : Addr) (cl : List (Str × Addr)) (fp : List Addr) (b : Act), InB a b → SG (X.blk s H scope (compEnvC scope cl C X.env) fp) b Φ sl1 tg1 f1)
    (ht1 : ∀ (s : Shared) (H : Hp) (C : Addr) (cl : List (Str × Addr)) (fp : List Addr) (b : Act), InB a b → STs (X.blk s H scope (compEnvC scope cl C X.env) fp) b Φ ifs1 t1)
    (he : ∀ (s : Shared) (H : Hp) (C : Addr) (cl : List (Str × Addr)) (fp : List Addr) (b : Act), InB a b → SE (X.blk s H scope (compEnvC scope cl C X.env) fp) b Φ elt m) (hs : ∀ x, foldedSetIterable iter X.env x = pure x) (hs1 : ∀ env x, foldedSetIterable iter1 env x = pure x) :
    SO X a Φ (.ListComp elt [⟨tg, iter, ifs, 0⟩, ⟨tg1, iter1, ifs1, 0⟩] scope pos) (oLC2 mi f t mi1 f1 t1 m (own.map (·.2)) vs1) :=
  PE.imp (pe_lc2 (vs1 := vs1) hc hN hi ok hv (fun s H C cl fp => PG.ex (C := InB a) fun b hb => hg s H C cl fp b hb) (fun s H C cl fp => PTs.ex (C := InB a) fun b hb => ht s H C cl fp b hb) (fun s H C cl fp => PI.ex (C := InB a) fun b hb => hi1 s H C cl fp b hb) (fun s H C cl fp => PG.ex (C := InB a) fun b hb => hg1 s H C cl fp b hb) (fun s H C cl fp => PTs.ex (C := InB a) fun b hb => ht1 s H C cl fp b hb) (fun s H C cl fp => PE.ex (C := InB a) fun b hb => he s H C cl fp b hb) hs hs1) fun σ H Q q => lc2_key hsl hsl1 hv q
theorem ss_lc2 {vs1 : List Nat} {i : Nat} {y : Str} {py spos : Pos} (hy : X.N[i]? = some y) (hyl : X.env.scope.names.lookup y = some .local) (hsw : swapsWith (.ListComp elt [⟨tg, iter, ifs, 0⟩, ⟨tg1, iter1, ifs1, 0⟩] scope pos) (some (.Name y py)) spos.line X.env = pure true) (hK : X.K = a.K) (hc : X.calm = true) (hN : X.N.Nodup) (hi : SI X a Φ tg iter mi) (ok : BlkOk X.N X.env.scope scope own) (hsl : ∀ j, j ∈ sl → j ∈ own.map (·.2)) (hsl1 : ∀ j, j ∈ sl1 → j ∈ vs1) (hv : ∀ i ∈ vs1, i ∈ own.map (·.2))
    (hg : ∀ (s : Shared) (H : Hp) (C : Addr) (cl : List (Str × Addr)) (fp : List Addr) (b : Act), InB a b → SG (X.blk s H scope (compEnvC scope cl C X.env) fp) b Φ sl tg f)
    (ht : ∀ (s : Shared) (H : Hp) (C : Addr) (cl : List (Str × Addr)) (fp : List Addr) (b : Act), InB a b → STs (X.blk s H scope (compEnvC scope cl C X.env) fp) b Φ ifs t)
    (hi1 : ∀ (s : Shared) (H : Hp) (C : Addr) (cl : List (Str × Addr)) (fp : List Addr) (b : Act), InB a b → SI (X.blk s H scope (compEnvC scope cl C X.env) fp) b Φ tg1 iter1 mi1)
    (hg1 : ∀ (s : Shared) (H : Hp) (C : Addr) (cl : List (Str × Addr)) (fp : List Addr) (b : Act), InB a b → SG (X.blk s H scope (compEnvC scope cl C X.env) fp) b Φ sl1 tg1 f1)
    (ht1 : ∀ (s : Shared) (H : Hp) (C : Addr) (cl : List (Str × Addr)) (fp : List Addr) (b : Act), InB a b → STs (X.blk s H scope (compEnvC scope cl C X.env) fp) b Φ ifs1 t1)
    (he : ∀ (s : Shared) (H : Hp) (C : Addr) (cl : List (Str × Addr)) (fp : List Addr) (b : Act), InB a b → SE (X.blk s H scope (compEnvC scope cl C X.env) fp) b Φ elt m) (hs : ∀ x, foldedSetIterable iter X.env x = pure x) (hs1 : ∀ env x, foldedSetIterable iter1 env x = pure x) :
    SS X a Φ (.Assign [.Name y py] (.ListComp elt [⟨tg, iter, ifs, 0⟩, ⟨tg1, iter1, ifs1, 0⟩] scope pos) spos) (sOwn i (oLC2 mi f t mi1 f1 t1 m (own.map (·.2)) vs1)) :=
  PS.imp (ps_setLc2 (vs1 := vs1) hc hN hy hyl hsw hi ok hv (fun s H C cl fp => PG.ex (C := InB a) fun b hb => hg s H C cl fp b hb) (fun s H C cl fp => PTs.ex (C := InB a) fun b hb => ht s H C cl fp b hb) (fun s H C cl fp => PI.ex (C := InB a) fun b hb => hi1 s H C cl fp b hb) (fun s H C cl fp => PG.ex (C := InB a) fun b hb => hg1 s H C cl fp b hb) (fun s H C cl fp => PTs.ex (C := InB a) fun b hb => ht1 s H C cl fp b hb) (fun s H C cl fp => PE.ex (C := InB a) fun b hb => he s H C cl fp b hb) hs hs1) fun D σ H q => lc2_key hsl hsl1 hv (TSs.own q fun w H s sv p P k => (SatS.store k).2 w H _ Stp.refl (P.store i))
end
end EL
set_option Elab.async false
set_option linter.all false
set_option maxRecDepth 100000
/-! EC11: what changes a list or a dict; tests. -/
namespace EL
open PySem PySem.Spec PyProof.Rows L2

theorem nodup_at {α : Type} {l : List α} (h : l.Nodup) {i j : Nat} {x : α} (hi : l[i]? = some x) (hj : l[j]? = some x) : i = j := by
  obtain ⟨h1, e1⟩ := List.getElem?_eq_some_iff.mp hi
  obtain ⟨h2, e2⟩ := List.getElem?_eq_some_iff.mp hj
  have q := List.pairwise_iff_getElem.mp h
  rcases Nat.lt_trichotomy i j with z | z | z
  · exact absurd (e1.trans e2.symm) (q i j h1 h2 z)
  · exact z
  · exact absurd (e2.trans e1.symm) (q j i h2 h1 z)
section
variable {a : Act} {w : W} {env : List SV} {hp : List EO} {σ : L2.St} {H : Hp} {s : S} {p : Addr} {o : HO}
/-- a slot's own object changes -/
theorem Rel.mutS (R : Rel a w env hp σ H) {i : Nat} {s0 s1 : SV} (he : env[i]? = some s0) (h0 : isOwn s0 = true) (h1 : isOwn s1 = true) (hσ : σ[i]? = some (some (.ref p))) (hs : ∀ H', Stp w H w H' → H' p = some o → SlotOk a.K a.cls w H' s1 (some (some (.ref p)))) : Rel a w (env.set i s1) hp σ (upd H p o) ∧ Stp w H w (upd H p o) := by
  obtain ⟨o1, o2, o3⟩ := R.own i s0 p he h0 hσ
  have il : i < env.length := (List.getElem?_eq_some_iff.mp he).1
  have st : Stp w H w (upd H p o) := ⟨fun _ h => h, fun _ _ h => h, fun x hx => upd_ne fun z => o1 (z ▸ hx)⟩
  have key : ∀ {j : Nat} {t : SV}, (env.set i s1)[j]? = some t → (j = i ∧ t = s1) ∨ (j ≠ i ∧ env[j]? = some t) := fun {j t} e => by
    by_cases hj : j = i
    · subst hj; rw [List.getElem?_set_self il] at e; cases e; exact .inl ⟨rfl, rfl⟩
    · exact .inr ⟨hj, set_other hj e⟩
  refine ⟨⟨by rw [List.length_set]; exact R.len, fun j t e => ?_, fun j t q e h hq => ?_, fun j k t t' q e h hq e' h' hq' => ?_, R.clen, R.cnd, fun j u q hi hq => (R.cell j u q hi hq).mono st (upd_ne fun z => o2 (z ▸ List.mem_of_getElem? hq)), R.cellF, R.cell0, R.pre, fun x u hx hm => ?_, fun x hx => ?_, R.F0, R.Fpre⟩, st⟩
  · rcases key e with ⟨rfl, rfl⟩ | ⟨hj, e1⟩
    · rw [hσ]; exact hs _ st upd_same
    · refine (R.slot j t e1).mono st fun h q hq => upd_ne fun z => ?_
      subst z
      exact hj (R.apart j i t s0 q e1 h hq he h0 hσ)
  · rcases key e with ⟨rfl, rfl⟩ | ⟨hj, e1⟩
    · exact R.own j s0 q he h0 hq
    · exact R.own j t q e1 h hq
  · rcases key e with ⟨rfl, rfl⟩ | ⟨hj, e1⟩
    · rcases key e' with ⟨rfl, rfl⟩ | ⟨hk, e2⟩
      · rfl
      · exact R.apart j k s0 t' q he h0 hq e2 h' hq'
    · rcases key e' with ⟨rfl, rfl⟩ | ⟨hk, e2⟩
      · exact R.apart j k t s0 q e1 h hq he h0 hq'
      · exact R.apart j k t t' q e1 h hq e2 h' hq'
  · rw [upd_ne fun z => by subst z; rw [o3] at hx; cases hx]
    exact R.frame x u hx hm
  · rw [upd_ne (show x ≠ p from fun z => o1 (z ▸ hx))]; exact R.frz x hx
/-- a cell changes -/
theorem Rel.mutC (R : Rel a w env hp σ H) {i : Nat} {e0 e1 : EO} (he : hp[i]? = some e0) (hr : w.ρ[i]? = some p) (hs : ∀ H', Stp w H w H' → H' p = some o → OC a.K a.cls w H' e1 p) : Rel a w env (hp.set i e1) σ (upd H p o) ∧ Stp w H w (upd H p o) := by
  have il : i < hp.length := (List.getElem?_eq_some_iff.mp he).1
  have hm : p ∈ w.ρ := List.mem_of_getElem? hr
  have st : Stp w H w (upd H p o) := ⟨fun _ h => h, fun _ _ h => h, fun x hx => upd_ne fun z => R.cellF p hm (z ▸ hx)⟩
  refine ⟨⟨R.len, fun j t e => (R.slot j t e).mono st fun h q hq => upd_ne fun z => ?_, R.own, R.apart, by rw [List.length_set]; exact R.clen, R.cnd, fun j u q hi hq => ?_, R.cellF, R.cell0, R.pre, fun x u hx hm' => ?_, fun x hx => ?_, R.F0, R.Fpre⟩, st⟩
  · subst z
    exact (R.own j t q e h hq).2.1 hm
  · by_cases hj : j = i
    · subst hj
      rw [List.getElem?_set_self il] at hi; cases hi
      rw [hr] at hq; cases hq
      exact hs _ st upd_same
    · rw [List.getElem?_set_ne (Ne.symm hj)] at hi
      refine (R.cell j u q hi hq).mono st (upd_ne fun z => ?_)
      subst z
      exact hj (nodup_at R.cnd hq hr)
  · rw [upd_ne fun z => ?_]
    · exact R.frame x u hx hm'
    · subst z
      rcases R.cell0 x hm with z | z
      · exact hm' z
      · rw [hx] at z; cases z
  · rw [upd_ne (show x ≠ p from fun z => R.cellF p hm (z ▸ hx))]; exact R.frz x hx
end

/-! ### lists that may be changed -/
def lstH (s : S) : Hd → Option (List U)
  | .u (.ref i) => match s.hp[i]? with
    | some (.lst us) => some us
    | _ => none
  | .sl i => match s.env[i]? with
    | some (.ol us) => some us
    | _ => none
  | _ => none
def setH (s : S) (h : Hd) (us : List U) : S := match h with
  | .u (.ref i) => ⟨s.env, s.hp.set i (.lst us)⟩
  | .sl i => ⟨s.env.set i (.ol us), s.hp⟩
  | _ => s
def dcH (s : S) : Hd → Option (Bool × List (U × U))
  | .u (.ref i) => match s.hp[i]? with
    | some (.dic t us) => some (t, us)
    | _ => none
  | .sl i => match s.env[i]? with
    | some (.od t us) => some (t, us)
    | _ => none
  | _ => none
def setD (s : S) (h : Hd) (t : Bool) (us : List (U × U)) : S := match h with
  | .u (.ref i) => ⟨s.env, s.hp.set i (.dic t us)⟩
  | .sl i => ⟨s.env.set i (.od t us), s.hp⟩
  | _ => s
section
variable {a : Act} {w : W} {σ : L2.St} {H : Hp} {s : S}
theorem lst_spec (R : Rel a w s.env s.hp σ H) {h : Hd} {v : V} {us : List U} (q : HdOk a σ w H h v) (e : lstH s h = some us) : ∃ p vs, v = .ref p ∧ H p = some (.lst vs) ∧ RUs a.K a.cls w H us vs ∧
    ∀ us' vs', RUs a.K a.cls w H us' vs' → Rel a w (setH s h us').env (setH s h us').hp σ (upd H p (.lst vs')) ∧ Stp w H w (upd H p (.lst vs')) := by
  cases h with
  | sl i =>
    simp only [lstH] at e
    split at e
    · rename_i us0 he
      cases e
      obtain ⟨p, h1, h2⟩ := R.slot i _ he
      have hv : σ[i]? = some (some v) := q
      rw [h1] at hv; cases hv
      cases h2 with
      | lst h3 r => exact ⟨p, _, rfl, h3, r, fun us' vs' r' => R.mutS he rfl rfl h1 fun H' st hp => ⟨p, rfl, .lst hp (r'.mono st)⟩⟩
    · cases e
  | u u =>
    have q' : RU a.K a.cls w H u v := q
    cases u <;> first | (cases e; done) | skip
    rename_i i
    simp only [lstH] at e
    split at e
    · rename_i us0 he
      cases e
      cases q' with
      | ref hr =>
        cases R.cell i _ _ he hr with
        | lst h3 r => exact ⟨_, _, rfl, h3, r, fun us' vs' r' => R.mutC he hr fun H' st hp => .lst hp (r'.mono st)⟩
    · cases e
theorem RKs.map {K : PySem.W.Frag} {cls : Str → Addr} {k : L2.Key} {u : U} {v : V} (r0 : RU K cls w H u v) : ∀ {us : List (U × U)} {ks : List (L2.Key × V)}, RKs K cls w H us ks →
    RKs K cls w H (us.map fun e => if decide (toK e.1 = some k) = true then (e.1, u) else e) (ks.map fun kv => if kv.1 = k then (kv.1, v) else kv)
  | _, _, .nil => .nil
  | _, _, .cons (k := k') r t => by
    rw [List.map_cons, List.map_cons]
    by_cases e : k' = k
    · rw [if_pos (by simp [toK_kU, e]), if_pos e]; exact .cons r0 (RKs.map r0 t)
    · rw [if_neg (by simp [toK_kU, e]), if_neg e]; exact .cons r (RKs.map r0 t)
theorem RKs.any {K : PySem.W.Frag} {cls : Str → Addr} {k : L2.Key} : ∀ {us : List (U × U)} {ks : List (L2.Key × V)}, RKs K cls w H us ks → (us.any fun e => decide (toK e.1 = some k)) = ks.any fun kv => decide (kv.1 = k)
  | _, _, .nil => rfl
  | _, _, .cons (k := k') r t => by rw [List.any_cons, List.any_cons, RKs.any t]; simp [toK_kU]
theorem RKs.app {K : PySem.W.Frag} {cls : Str → Addr} {k : L2.Key} {u : U} {v : V} (r0 : RU K cls w H u v) : ∀ {us : List (U × U)} {ks : List (L2.Key × V)}, RKs K cls w H us ks → RKs K cls w H (us ++ [(kU k, u)]) (ks ++ [(k, v)])
  | _, _, .nil => .cons r0 .nil
  | _, _, .cons r t => .cons r (RKs.app r0 t)
theorem RKs.put {K : PySem.W.Frag} {cls : Str → Addr} {k : L2.Key} {u : U} {v : V} {us : List (U × U)} {ks : List (L2.Key × V)} (r0 : RU K cls w H u v) (r : RKs K cls w H us ks) : RKs K cls w H (putU us (fun e => decide (toK e = some k)) (kU k) u) (putK ks k v) := by
  unfold putU putK
  rw [RKs.any r]
  by_cases h : (ks.any fun kv => decide (kv.1 = k)) = true
  · rw [if_pos h, if_pos h]; exact RKs.map r0 r
  · rw [if_neg h, if_neg h]; exact RKs.app r0 r
theorem RTs.map {K : PySem.W.Frag} {cls : Str → Addr} {k : List L2.Key} {u : U} {v : V} (r0 : RU K cls w H u v) : ∀ {us : List (U × U)} {ks : List (List L2.Key × V)}, RTs K cls w H us ks →
    RTs K cls w H (us.map fun e => if decide (toKT e.1 = some k) = true then (e.1, u) else e) (ks.map fun kv => if kv.1 = k then (kv.1, v) else kv)
  | _, _, .nil => .nil
  | _, _, .cons (k := k') r t => by
    rw [List.map_cons, List.map_cons]
    by_cases e : k' = k
    · rw [if_pos (by simp [toKT, toKs_kU, e]), if_pos e]; exact .cons r0 (RTs.map r0 t)
    · rw [if_neg (by simp [toKT, toKs_kU, e]), if_neg e]; exact .cons r (RTs.map r0 t)
theorem RTs.any {K : PySem.W.Frag} {cls : Str → Addr} {k : List L2.Key} : ∀ {us : List (U × U)} {ks : List (List L2.Key × V)}, RTs K cls w H us ks → (us.any fun e => decide (toKT e.1 = some k)) = ks.any fun kv => decide (kv.1 = k)
  | _, _, .nil => rfl
  | _, _, .cons (k := k') r t => by rw [List.any_cons, List.any_cons, RTs.any t]; simp [toKT, toKs_kU]
theorem RTs.app {K : PySem.W.Frag} {cls : Str → Addr} {k : List L2.Key} {u : U} {v : V} (r0 : RU K cls w H u v) : ∀ {us : List (U × U)} {ks : List (List L2.Key × V)}, RTs K cls w H us ks → RTs K cls w H (us ++ [(.tup (k.map kU), u)]) (ks ++ [(k, v)])
  | _, _, .nil => .cons r0 .nil
  | _, _, .cons r t => .cons r (RTs.app r0 t)
theorem RTs.put {K : PySem.W.Frag} {cls : Str → Addr} {k : List L2.Key} {u : U} {v : V} {us : List (U × U)} {ks : List (List L2.Key × V)} (r0 : RU K cls w H u v) (r : RTs K cls w H us ks) : RTs K cls w H (putU us (fun e => decide (toKT e = some k)) (.tup (k.map kU)) u) (putK ks k v) := by
  unfold putU putK
  rw [RTs.any r]
  by_cases h : (ks.any fun kv => decide (kv.1 = k)) = true
  · rw [if_pos h, if_pos h]; exact RTs.map r0 r
  · rw [if_neg h, if_neg h]; exact RTs.app r0 r
/-- a store into a dict -/
theorem put_spec (R : Rel a w s.env s.hp σ H) {h : Hd} {x y z : V} {t : Bool} {us us' : List (U × U)} {k u : U} (q : HdOk a σ w H h x) (e : dcH s h = some (t, us)) (rk : RU a.K a.cls w H k y) (ru : RU a.K a.cls w H u z) (ep : put t us k u = some us') :
    ∃ p H', x = .ref p ∧ DPut H p y z H' ∧ Rel a w (setD s h t us').env (setD s h t us').hp σ H' ∧ Stp w H w H' := by
  unfold put at ep
  by_cases hl : us.length < line
  · rw [if_pos hl] at ep
    -- where the dict lies
    have main : ∀ (p : Addr), OC a.K a.cls w H (.dic t us) p → (∀ o, (∀ H', Stp w H w H' → H' p = some o → OC a.K a.cls w H' (.dic t us') p) → Rel a w (setD s h t us').env (setD s h t us').hp σ (upd H p o) ∧ Stp w H w (upd H p o)) →
        ∃ H', DPut H p y z H' ∧ Rel a w (setD s h t us').env (setD s h t us').hp σ H' ∧ Stp w H w H' := by
      intro p oc mu
      cases oc with
      | dicK h3 r =>
        simp only [Bool.false_eq_true, if_false] at ep
        cases hk : toK k with
        | none => rw [hk] at ep; cases ep
        | some kk =>
          rw [hk] at ep; cases ep
          obtain ⟨rfl, rfl⟩ := toK_some rk hk
          refine ⟨_, .inl ⟨_, kk, h3, rfl, by rw [← r.length]; exact hl, rfl⟩, mu _ fun H' st hp => .dicK hp ((RKs.put ru r).mono st)⟩
      | dicT h3 r =>
        simp only [if_true] at ep
        cases hk : toKT k with
        | none => rw [hk] at ep; cases ep
        | some kk =>
          rw [hk] at ep; cases ep
          obtain ⟨b, rfl, hb, rfl⟩ := toKT_some rk hk
          refine ⟨_, .inr ⟨_, kk, b, h3, rfl, hb, by rw [← r.length]; exact hl, rfl⟩, mu _ fun H' st hp => .dicT hp ((RTs.put ru r).mono st)⟩
    cases h with
    | sl i =>
      simp only [dcH] at e
      split at e
      · rename_i t0 us0 he
        cases e
        obtain ⟨p, h1, h2⟩ := R.slot i _ he
        have hv : σ[i]? = some (some x) := q
        rw [h1] at hv; cases hv
        obtain ⟨H', d1, d2⟩ := main p h2 fun o hs => R.mutS he rfl rfl h1 fun H' st hp => ⟨p, rfl, hs H' st hp⟩
        exact ⟨p, H', rfl, d1, d2⟩
      · cases e
    | u u0 =>
      have q' : RU a.K a.cls w H u0 x := q
      cases u0 <;> first | (cases e; done) | skip
      rename_i i
      simp only [dcH] at e
      split at e
      · rename_i t0 us0 he
        cases e
        cases q' with
        | @ref p _ hr =>
          obtain ⟨H', d1, d2⟩ := main p (R.cell i _ _ he hr) fun o hs => R.mutC he hr hs
          exact ⟨p, H', rfl, d1, d2⟩
      · cases e
  · rw [if_neg hl] at ep; cases ep
end
end EL
set_option Elab.async false
set_option linter.all false
set_option maxRecDepth 100000
/-! EC12: append, pop, o[i] = v; tests. -/
namespace EL
open PySem PySem.Spec PyProof.Rows L2

/-- go on where g holds -/
def chk {α β : Type} (g : S → Option α) (k : M β) : M β := fun Φ s => match g s with
  | some _ => k Φ s
  | none => none
/-- a value and a new state -/
def act {α : Type} (g : S → Option (α × S)) : M α := fun _ s => match g s with
  | some (x, s') => some (.ok x s')
  | none => none
def appS (s : S) (h : Hd) (u : U) : Option (U × S) := match lstH s h with
  | some us => if us.length < line then some (.non, setH s h (us ++ [u])) else none
  | none => none
def eApp (mh : M Hd) (m : M U) : M U := bnd mh fun h => chk (fun s => lstH s h) (bnd m fun u => act fun s => appS s h u)
def popS (s : S) (h : Hd) : Option (U × S) := match lstH s h with
  | some us => (match us[us.length - 1]? with
    | some u => some (u, setH s h us.dropLast)
    | none => none)
  | none => none
def ePop (mh : M Hd) : M U := bnd mh fun h => act fun s => popS s h
def pop0S (s : S) (h : Hd) (i : U) : Option (U × S) := match lstH s h, i with
  | some (u :: us), .int 0 => some (u, setH s h us)
  | _, _ => none
def ePopAt (mh : M Hd) (m : M U) : M U := bnd mh fun h => chk (fun s => lstH s h) (bnd m fun i => act fun s => pop0S s h i)
def itemS (s : S) (h : Hd) (i v : U) : Option (Fl × S) := match lstH s h with
  | some us => (match i with
    | .int k => (L2.ixN us.length k).map fun j => (.nx, setH s h (us.set j v))
    | _ => none)
  | none => (match dcH s h with
    | some (t, kvs) => (put t kvs i v).map fun kvs' => (.nx, setD s h t kvs')
    | none => none)
def sItem (mh : M Hd) (mi m : M U) : M Fl := bnd m fun v => bnd mh fun h => bnd mi fun i => act fun s => itemS s h i v

section
variable {α β : Type} {a : Act} {Φ : Phi} {w : W} {σ : L2.St} {H : Hp} {s : S}
theorem Sat.chk {γ : Type} {g : S → Option γ} {k : M α} {rel : W → Hp → α → β → Prop} {Q : β → Hp → Prop} (h : Sat a Φ w σ H s (EL.chk g k) rel Q) : (∃ x, g s = some x) ∧ Sat a Φ w σ H s k rel Q := by
  obtain ⟨R, h⟩ := h
  unfold EL.chk at h
  cases e : g s with
  | none => rw [e] at h; exact h.elim
  | some x => rw [e] at h; exact ⟨⟨x, rfl⟩, R, h⟩
theorem Sat.act {g : S → Option (α × S)} {rel : W → Hp → α → β → Prop} {Q : β → Hp → Prop} (h : Sat a Φ w σ H s (EL.act g) rel Q) : ∃ x s', g s = some (x, s') ∧ Rel a w s.env s.hp σ H ∧ Out a w σ H s' rel x Q := by
  obtain ⟨R, h⟩ := h
  unfold EL.act at h
  cases e : g s with
  | none => rw [e] at h; exact h.elim
  | some z => rw [e] at h; obtain ⟨x, s'⟩ := z; exact ⟨x, s', rfl, R, h⟩
theorem SatS.act {g : S → Option (Fl × S)} {D : Ends} (h : SatS a Φ w σ H s (EL.act g) D) : ∃ x s', g s = some (x, s') ∧ Rel a w s.env s.hp σ H ∧ OutS a w H s' x D := by
  obtain ⟨R, h⟩ := h
  unfold EL.act at h
  cases e : g s with
  | none => rw [e] at h; exact h.elim
  | some z => rw [e] at h; obtain ⟨x, s'⟩ := z; exact ⟨x, s', rfl, R, h⟩
theorem SatS.bnd {m : M α} {k : α → M Fl} {r1 : W → Hp → α → β → Prop} {D : Ends} {P : β → Hp → Prop} (h : SatS a Φ w σ H s (EL.bnd m k) D)
    (f : ∀ (w : W) (H : Hp) (s : S) (x : α) (y : β), r1 w H x y → SatS a Φ w σ H s (k x) D → P y H) : TR a Φ m r1 σ H P := TSs.one (r1 := r1) ⟨w, s, h⟩ f
theorem Sat.bndT {γ δ : Type} {m : M α} {k : α → M γ} {r1 : W → Hp → α → β → Prop} {r2 : W → Hp → γ → δ → Prop} {Q : δ → Hp → Prop} {P : β → Hp → Prop} (h : Sat a Φ w σ H s (EL.bnd m k) r2 Q)
    (f : ∀ (w' : W) (H' : Hp) (s : S) (x : α) (y : β), Stp w H w' H' → r1 w' H' x y → Sat a Φ w' σ H' s (k x) r2 Q → P y H') : TR a Φ m r1 σ H P := by
  obtain ⟨R, q⟩ := Sat.bnd (r1 := r1) h
  refine ⟨w, s, R, ?_⟩
  cases e : m Φ s with
  | none => rw [e] at q; exact q
  | some z =>
    rw [e] at q
    cases z with
    | ok x s' =>
      intro w1 H1 y st R1 rx
      obtain ⟨w2, x2, s2, st2, r2', h2⟩ := q w1 H1 y st R1 rx
      exact f w2 H1 s2 x2 y st2 r2' h2
    | ex c g v s' => exact q
theorem SatS.bndT {m : M α} {k : α → M Fl} {r1 : W → Hp → α → β → Prop} {D : Ends} {P : β → Hp → Prop} (h : SatS a Φ w σ H s (EL.bnd m k) D)
    (f : ∀ (w' : W) (H' : Hp) (s : S) (x : α) (y : β), Stp w H w' H' → r1 w' H' x y → SatS a Φ w' σ H' s (k x) D → P y H') : TR a Φ m r1 σ H P := by
  obtain ⟨R, h⟩ := h
  refine ⟨w, s, R, ?_⟩
  unfold EL.bnd at h
  cases e : m Φ s with
  | none => rw [e] at h; exact h.elim
  | some r =>
    rw [e] at h
    cases r with
    | ex c g v s' => exact h
    | ok x s' => exact fun w1 H1 y st R1 rx => f w1 H1 s' x y st rx (SatS.run R1 h st)
end

section
variable {a : Act} {X : Cx} {Φ : Phi} {e e1 e2 e3 : Expr} {es : List Expr} {ms : M (List U)} {m m1 m2 m3 : M U} {mh : M Hd} {apos cpos pos pos' : Pos} {w : W} {σ : L2.St} {H : Hp} {s : S} {t t1 t2 : M Bool}
theorem rlst_ty {K : PySem.W.Frag} {p : Addr} {vs : List V} (h : H p = some (.lst vs)) : tyV K "list" (.ref p) H := .inl ⟨rfl, vs, SqL.of h⟩
theorem appS_some {s s' : S} {h : Hd} {u z : U} (e : appS s h u = some (z, s')) : ∃ us, lstH s h = some us ∧ us.length < line ∧ z = .non ∧ s' = setH s h (us ++ [u]) := by
  unfold appS at e
  cases q : lstH s h with
  | none => rw [q] at e; cases e
  | some us =>
    rw [q] at e
    by_cases hl : us.length < line
    · simp only [hl, if_true] at e; cases e; exact ⟨us, rfl, hl, rfl, rfl⟩
    · simp only [hl, if_false] at e; cases e
theorem se_app (h1 : SH X a Φ e1 mh) (h2 : SE X a Φ e2 m) (hbase : attributeBase e1 "append" X.env (eval e1 X.env) = eval e1 X.env)
    (hline : (apos.endLine == cpos.line) = true) (hs : starEach [e2] X.env = (false, eval e2 X.env) :: starEach [] X.env) : SE X a Φ (.Call (.Attribute e1 "append" apos) [e2] [] cpos) (eApp mh m) :=
  PE.imp (pe_bm PySem.F.plainAttrs_list PySem.F.slot_list_append PySem.F.type_list_append mt_append h1 (pa_cons h2 pa_nil hs) hbase (by rw [hs]; rfl) hline hs rfl) fun σ H Q q => TR.one q fun w H s h x rx k => by
    obtain ⟨⟨us, e⟩, k⟩ := Sat.chk k
    obtain ⟨p, vs, rfl, hp, r, _⟩ := lst_spec k.1 rx e
    refine ⟨rlst_ty hp, Sat.bndT k fun w2 H2 s2 u y st ru k2 => ?_⟩
    obtain ⟨z, s', e2, R, k3⟩ := Sat.act k2
    obtain ⟨us2, h1, hl, rfl, rfl⟩ := appS_some e2
    obtain ⟨p', vs2, ep, hp2, r2, mu⟩ := lst_spec R (rx.mono st) h1
    cases ep
    obtain ⟨R', st'⟩ := mu (us2 ++ [u]) (vs2 ++ [y]) (r2.append (.cons ru .nil))
    exact ⟨p, vs2, y, rfl, rfl, hp2, by rw [← r2.length]; exact hl, k3 _ _ _ st' R' .non⟩
theorem popS_some {s s' : S} {h : Hd} {z : U} (e : popS s h = some (z, s')) : ∃ us, lstH s h = some us ∧ us[us.length - 1]? = some z ∧ s' = setH s h us.dropLast := by
  unfold popS at e
  cases q : lstH s h with
  | none => rw [q] at e; cases e
  | some us =>
    rw [q] at e
    cases q2 : us[us.length - 1]? with
    | none => simp only [q2] at e; cases e
    | some u => simp only [q2] at e; cases e; exact ⟨us, rfl, q2, rfl⟩
theorem se_pop (h1 : SH X a Φ e1 mh) (hbase : attributeBase e1 "pop" X.env (eval e1 X.env) = eval e1 X.env)
    (hline : (apos.endLine == cpos.line) = true) : SE X a Φ (.Call (.Attribute e1 "pop" apos) [] [] cpos) (ePop mh) :=
  PE.imp (pe_bm0 PySem.F.plainAttrs_list PySem.F.slot_list_pop PySem.F.type_list_pop mt_pop h1 hbase hline) fun σ H Q q => TR.one q fun w H s h x rx k => by
    obtain ⟨z, s', e2, R, k3⟩ := Sat.act k
    obtain ⟨us, h1, hz, rfl⟩ := popS_some e2
    obtain ⟨p, vs, rfl, hp, r, mu⟩ := lst_spec R rx h1
    obtain ⟨y, hy, ry⟩ := r.get hz
    obtain ⟨R', st'⟩ := mu us.dropLast vs.dropLast r.dropLast
    exact ⟨rlst_ty hp, p, vs, y, rfl, rfl, hp, by rw [← r.length]; exact hy, k3 _ _ _ st' R' (ry.mono st')⟩
theorem pop0S_some {s s' : S} {h : Hd} {i z : U} (e : pop0S s h i = some (z, s')) : ∃ us, lstH s h = some (z :: us) ∧ i = .int 0 ∧ s' = setH s h us := by
  unfold pop0S at e
  split at e
  · rename_i q; cases e; exact ⟨_, q, rfl, rfl⟩
  · cases e
theorem se_popAt (h1 : SH X a Φ e1 mh) (h2 : SE X a Φ e2 m) (hbase : attributeBase e1 "pop" X.env (eval e1 X.env) = eval e1 X.env)
    (hline : (apos.endLine == cpos.line) = true) (hs : starEach [e2] X.env = (false, eval e2 X.env) :: starEach [] X.env) : SE X a Φ (.Call (.Attribute e1 "pop" apos) [e2] [] cpos) (ePopAt mh m) :=
  PE.imp (pe_bm PySem.F.plainAttrs_list PySem.F.slot_list_pop PySem.F.type_list_pop mt_popAt h1 (pa_cons h2 pa_nil hs) hbase (by rw [hs]; rfl) hline hs rfl) fun σ H Q q => TR.one q fun w H s h x rx k => by
    obtain ⟨⟨us, e⟩, k⟩ := Sat.chk k
    obtain ⟨p, vs, rfl, hp, r, _⟩ := lst_spec k.1 rx e
    refine ⟨rlst_ty hp, Sat.bndT k fun w2 H2 s2 u y st ru k2 => ?_⟩
    obtain ⟨z, s', e2, R, k3⟩ := Sat.act k2
    obtain ⟨us2, h1, rfl, rfl⟩ := pop0S_some e2
    obtain ⟨p', vs2, ep, hp2, r2, mu⟩ := lst_spec R (rx.mono st) h1
    cases ep
    cases ru
    cases r2 with
    | @cons _ v1 _ vs1 r1 rt =>
      obtain ⟨R', st'⟩ := mu us2 vs1 rt
      exact ⟨p, v1 :: vs1, 0, 0, v1, rfl, rfl, hp2, by decide, by decide, seqIndex_of (by decide) (by simp only [List.length_cons]; omega), rfl, k3 _ _ _ st' R' (r1.mono st')⟩
/-! ### o[i] = v -/
def rSetD : V → V → V → Hp → (Hp → Prop) → Prop := fun o i v H Q => ∃ p H', o = .ref p ∧ DPut H p i v H' ∧ Q H'
theorem set_dict (hu : X.A.units + 1 < cLine) : PSet X rSetD := by
  intro pins s σ H o i v ov iv u Q I ro ri rv h
  obtain ⟨p, H', rfl, g, q⟩ := h
  cases ro
  exact d_setItem hu I g ri rv fun s4 I4 => ⟨H', I4, q⟩
theorem PSet.or {r r' : TSet} (h : PSet X r) (h' : PSet X r') : PSet X (fun o i v H Q => r o i v H Q ∨ r' o i v H Q) := by
  intro pins s σ H o i v ov iv u Q I ro ri rv q
  rcases q with q | q
  · exact h pins s σ H o i v ov iv u Q I ro ri rv q
  · exact h' pins s σ H o i v ov iv u Q I ro ri rv q
theorem ss_item (hu : X.A.units + 65 < cLine) (h1 : SH X a Φ e1 mh) (h2 : SE X a Φ e2 m2) (h : SE X a Φ e m)
    (ha : ∀ v, assign (.Subscript e1 e2 pos') X.env v = (do
      let ov ← holding [v] (eval e1 X.env)
      let iv ← holding [v, ov] (eval e2 X.env)
      standAt pos'
      holding [v, ov, iv] (setItem ov iv v)
      release [v, ov, iv] []))
    (hs : swapsWithSole [.Subscript e1 e2 pos'] e pos.line X.env = pure false) (hw : swappedStores [.Subscript e1 e2 pos'] e X.env = pure none) : SS X a Φ (.Assign [.Subscript e1 e2 pos'] e pos) (sItem mh m2 m) :=
  PS.imp (ps_asg h (pg_sub h1 h2 (PSet.or set_list (set_dict (by omega))) ha) hs hw) fun D σ H q => TSs.one (r1 := relU a) q fun w H s u v ru k => SatS.bndT k fun w1 H1 s1 hd x st1 rx k1 => SatS.bndT k1 fun w2 H2 s2 i y st2 ri k2 => by
    obtain ⟨fl, s', e3, R, k3⟩ := SatS.act k2
    unfold itemS at e3
    cases q : lstH s2 hd with
    | some us =>
      simp only [q] at e3
      split at e3
      · rename_i kk
        cases q2 : ixN us.length kk with
        | none => rw [q2] at e3; cases e3
        | some j =>
          rw [q2] at e3; cases e3
          obtain ⟨p, vs, rfl, hp, r, mu⟩ := lst_spec R (rx.mono st2) q
          cases ri
          have ru2 := ru.mono (st1.trans st2)
          obtain ⟨R', st'⟩ := mu (us.set j u) (vs.set j v) (r.set ru2 j)
          exact .inl ⟨p, vs, kk, j, rfl, rfl, hp, by rw [← r.length]; exact q2, k3 _ _ _ st' R'⟩
      · cases e3
    | none =>
      simp only [q] at e3
      cases q2 : dcH s2 hd with
      | none => simp only [q2] at e3; cases e3
      | some z =>
        obtain ⟨t, kvs⟩ := z
        simp only [q2] at e3
        cases q3 : put t kvs i u with
        | none => rw [q3] at e3; cases e3
        | some kvs' =>
          rw [q3] at e3; cases e3
          obtain ⟨p, H', rfl, dp, R', st'⟩ := put_spec R (rx.mono st2) q2 ri (ru.mono (st1.trans st2)) q3
          exact .inr ⟨p, H', rfl, dp, k3 _ _ _ st' R'⟩

/-! ### tests -/
theorem st_cop (hK : X.K = a.K) (hu : X.A.units + 65 < cLine) (o : COp) (h1 : SE X a Φ e1 m1) (h2 : SE X a Φ e2 m2) : STt X a Φ (.Compare e1 [copOf o] [e2] pos) (tV (eCop o m1 m2)) :=
  PT.imp (pt_cmpR (op_cop (by omega) o) h1 h2 (nobehind e2 (by cases o <;> decide) (by cases o <;> decide))) fun σ H Q h => by
    have h' : TR a Φ (eCop o m1 m2) (relU a) σ H fun x H1 => ∃ k, x = .bl k ∧ Q k H1 := TR.one h fun w H s u x rx q => by
      cases u <;> first | exact q.2.elim | skip
      cases rx
      exact ⟨_, rfl, Out.now (Sat.ret q) q.1 rfl⟩
    exact TR.two (monoU a) h' fun w H s u v x y rx ry q => by
      obtain ⟨z, e, R, k⟩ := Sat.fin q
      rw [hK]
      cases q : cop o u v with
      | none => rw [q] at e; cases e
      | some b => rw [q] at e; cases e; exact cop_spec (Q := fun x H' => ∃ k, x = .bl k ∧ Q k H') rx ry q (Out.now k R (.bl b))
theorem st_mem (hK : X.K = a.K) (hu : X.A.units + 65 < cLine) (neg : Bool) (h1 : SE X a Φ e1 m1) (h2 : SH X a Φ e2 mh) (hb : behindInMarks (inOp neg) e2 = false) : STt X a Φ (.Compare e1 [inOp neg] [e2] pos) (tV (eMem neg m1 mh)) :=
  PT.imp (pt_cmpR (op_mem hu neg) h1 h2 hb) fun σ H Q h => by
    have h' : TR a Φ (eMem neg m1 mh) (relU a) σ H fun x H1 => ∃ k, x = .bl k ∧ Q k H1 := TR.one h fun w H s u x rx q => by
      cases u <;> first | exact q.2.elim | skip
      cases rx
      exact ⟨_, rfl, Out.now (Sat.ret q) q.1 rfl⟩
    exact TR.two (monoU a) h' fun w H s u v x y rx ry q => by
      obtain ⟨z, e, R, k⟩ := Sat.lk q
      rw [hK]
      cases q : memU s u v with
      | none => rw [q] at e; cases e
      | some b => rw [q] at e; cases e; exact mem_spec (Q := fun x H' => ∃ k, x = .bl k ∧ Q k H') R rx ry q (Out.now k R (.bl _))
/-- chains: m1 o m2 o' m3 -/
def eChain (o o' : COp) (m1 m2 m3 : M U) : M U := bnd m1 fun u => bnd m2 fun v => bnd (ofO (cop o u v)) fun b => if b = true then bnd m3 fun z => ofO ((cop o' v z).map U.bl) else ret (.bl false)
theorem se_chain (hK : X.K = a.K) (hu : X.A.units + 65 < cLine) (o o' : COp) (h1 : SE X a Φ e1 m1) (h2 : SE X a Φ e2 m2) (h3 : SE X a Φ e3 m3) (hm : lastMarks [copOf o, copOf o'] [e2, e3] = false) : SE X a Φ (.Compare e1 [copOf o, copOf o'] [e2, e3] pos) (eChain o o' m1 m2 m3) :=
  PE.imp (pe_chain (op_cop (by omega) o) (op_cop (by omega) o') h1 h2 h3 hm) fun σ H Q h => TR.two (monoU a) h fun w H s u v x y rx ry q => by
    rw [hK]
    obtain ⟨R, q⟩ := q
    unfold bnd ofO at q
    cases e : cop o u v with
    | none => rw [e] at q; exact q.elim
    | some b =>
      rw [e] at q
      refine cop_spec (Q := fun z H3 => ∃ k, z = .bl k ∧ (if k = true then TR a Φ m3 (relU a) σ H3 (fun w' H4 => rCop a.K o' y w' H4 Q) else Q (.bl false) H3)) rx ry e ⟨b, rfl, ?_⟩
      cases b with
      | true =>
        rw [if_pos rfl]
        have q' : Sat a Φ w σ H s (bnd m3 fun z => EL.ofO ((cop o' v z).map U.bl)) (relU a) Q := ⟨R, q⟩
        refine Sat.bndT q' fun w3 H3 s3 z zv st rz k => ?_
        obtain ⟨z', e3, R3, k3⟩ := Sat.fin k
        cases e4 : cop o' v z with
        | none => rw [e4] at e3; cases e3
        | some b => rw [e4] at e3; cases e3; exact cop_spec (ry.mono st) rz e4 (Out.now k3 R3 (.bl b))
      | false => rw [if_neg Bool.false_ne_true]; exact Out.now (x := U.bl false) q R (.bl false)
/-- truth of a value -/
def truU (s : S) (h : Hd) : Option Bool := match seqOf s h with
  | some (_, us) => some (!us.isEmpty)
  | none => (match h with
    | .u .non => some false
    | .u (.bl b) => some b
    | .u (.int i) => some (i != 0)
    | _ => none)
def tTru (mh : M Hd) : M Bool := bnd mh fun h => look' fun s => truU s h
theorem emp_len {α β : Type} {l : List α} {k : List β} (h : l.length = k.length) : l.isEmpty = k.isEmpty := by
  cases l <;> cases k <;> simp at h ⊢
theorem st_tru (hK : X.K = a.K) (h : SH X a Φ e mh) (he : ∀ whole, isTrue e X.env whole = (do let v ← whole; standAt e.pos; holding [v] (truthy v))) : STt X a Φ e (tTru mh) :=
  PT.imp (pt_truth h he) fun σ H Q q => TR.one q fun w H s u x rx k => by
    obtain ⟨b, e, R, k⟩ := Sat.lk k
    refine ⟨b, ?_, Out.now k R rfl⟩
    rw [hK]
    unfold truU at e
    cases q1 : seqOf s u with
    | some z =>
      obtain ⟨t, us⟩ := z
      simp only [q1] at e
      cases e
      obtain ⟨p, vs, rfl, r, hs⟩ := seq_spec R rx q1
      rw [emp_len r.length]
      rcases hs.or with hs | hs
      · exact .inl ⟨vs, hs, rfl⟩
      · exact .inr (.inl ⟨vs, hs, rfl⟩)
    | none =>
      simp only [q1] at e
      split at e
      · cases e; cases rx; rfl
      · cases e; cases rx; rfl
      · cases e; cases rx; rfl
      · cases e
end
end EL
set_option Elab.async false
set_option linter.all false
set_option maxRecDepth 100000
/-! EC13: from the text to E, with its proof. -/
namespace EL
open PySem PySem.Spec PyProof.Rows L2

/-- what a law's text has at its top: defs (name, qualified name, parameters), whole numbers, names that are free -/
structure Glb where
  funs : List (Str × Str × Nat)
  consts : List (Str × Int)
  free : List Str
/-- a def's static context -/
structure Cs where
  N : List Str
  sc : Scope
  own : List Nat
  tk : List Nat
  cell : Bool
  top : Bool

structure GOk (G : Glb) (P : Program) (w : World) (K : PySem.W.Frag) (mg : Str → Option Value) (base : Heap) (cls : Str → Addr) (Φ : Phi) (k : Nat) : Prop where
  funs : ∀ x q np, G.funs.lookup x = some (q, np) → ∃ f fd ps, mg x = some (.ref f) ∧ PySem.W.keepIn K (.ref f) = true ∧ Binds K fd ps [] ∧ FnOk P w K mg base (L2.CX P w) k f fd ps (spE K cls Φ q np)
  consts : ∀ x i, G.consts.lookup x = some i → ∃ u, mg x = some u ∧ RelV (.int i) u
  free : ∀ x, G.free.contains x = true → mg x = none

structure XOk (G : Glb) (cs : Cs) (X : Cx) (a : Act) (Φ : Phi) (k : Nat) : Prop where
  K : X.K = a.K
  calm : X.calm = true
  nd : X.N.Nodup
  N : X.N = cs.N
  kind : X.env.scope.kind = .function
  vis : ∀ x kd, cs.sc.names.lookup x = some kd → (kd = .local ∨ kd = .cell ∨ kd = .free) → Vis X.env.scope x
  loc : ∀ x kd, cs.sc.names.lookup x = some kd → (kd = .local ∨ kd = .cell) → Loc X.env.scope x ∧ (X.fn x = true ∨ X.env.scope.names.lookup x = some .local)
  lcl : ∀ x, cs.sc.names.lookup x = some .local → X.env.scope.names.lookup x = some .local
  gl : ∀ x, cs.sc.names.lookup x = some .globalImplicit → Gl X x
  fr : ∀ x kd, cs.sc.names.lookup x = some kd → (kd = .cell ∨ kd = .free) → X.env.scope.names.lookup x = some .cell ∨ X.env.scope.names.lookup x = some .free
  room : Room k X.A
  tk : Takes X a.E
  glb : GOk G X.prog X.w X.K X.mg X.base a.cls Φ k
  pass : cs.top = true → PassesOwn (model X.prog X.w) X.A X.env X.xe

/-! ### forms -/
def notStar : Expr → Bool
  | .Starred _ _ => false
  | _ => true
def isComp : Expr → Bool
  | .ListComp _ _ _ _ => true
  | .SetComp _ _ _ _ => true
  | .DictComp _ _ _ _ _ => true
  | _ => false
def plainT : Expr → Bool
  | .UnaryOp .Not _ _ => false
  | .BoolOp _ _ _ => false
  | .IfExp _ _ _ _ => false
  | .Compare _ _ _ _ => false
  | _ => true
def isSlice : Expr → Bool
  | .Slice _ _ _ _ => true
  | _ => false
def isCall0 : Expr → Bool
  | .Call (.Name _ _) [] [] _ => true
  | _ => false
def isSet : Expr → Bool
  | .Set _ _ _ => true
  | _ => false
def isTup : Expr → Bool
  | .Tuple _ _ _ => true
  | _ => false
section
variable {env : Env} {e : Expr} {es : List Expr}
theorem star_cons (h : notStar e = true) : starEach (e :: es) env = (false, eval e env) :: starEach es env := by cases e <;> first | rfl | cases h
theorem star_any : ∀ {es : List Expr} {pos : Pos}, es.all notStar = true → (backTo pos (starEach es env)).any (·.1) = false
  | [], _, _ => rfl
  | e :: es, pos, h => by
    rw [List.all_cons, Bool.and_eq_true] at h
    rw [star_cons h.1]
    show (false || (backTo pos (starEach es env)).any (·.1)) = false
    rw [Bool.false_or]
    exact star_any h.2
theorem swaps_no {t : Option Expr} {l : Nat} (h : isComp e = false) : swapsWith e t l env = pure false := by cases e <;> first | rfl | cases h
theorem swaps_sub {x y : Expr} {p : Pos} {l : Nat} : swapsWithSole [.Subscript x y p] e l env = pure false := by cases e <;> rfl
theorem swaps_tup {xs : List Expr} {k : Nat} {p : Pos} {l : Nat} : swapsWithSole [.Tuple xs k p] e l env = pure false := by cases e <;> rfl
theorem sst_sub {x y : Expr} {p : Pos} : swappedStores [.Subscript x y p] e env = pure none := by cases e <;> rfl
theorem sst_tup {xs : List Expr} {k : Nat} {p : Pos} (h : isTup e = false) : swappedStores [.Tuple xs k p] e env = pure none := by cases e <;> first | rfl | cases h
theorem isTrue_plain' (h : plainT e = true) : ∀ whole, isTrue e env whole = (do let v ← whole; standAt e.pos; holding [v] (truthy v)) := by
  intro whole
  cases e with
  | UnaryOp op x p => cases op <;> first | rfl | cases h
  | BoolOp _ _ _ => cases h
  | IfExp _ _ _ _ => cases h
  | Compare _ _ _ _ => cases h
  | _ => rfl
theorem plainIx (h : isSlice e = false) : PlainIx e := by
  intro o i
  cases e <;> first | rfl | cases h
theorem attr_base {x : Str} {w : Sem Value} (h : isCall0 e = false) : attributeBase e x env w = w := by
  cases e with
  | Call f args kw p =>
    cases f with
    | Name id q =>
      cases args with
      | nil => cases kw with
        | nil => cases h
        | cons _ _ => rfl
      | cons _ _ => rfl
    | _ => rfl
  | _ => rfl
theorem no_set (h : isSet e = false) : ∀ x, foldedSetIterable e env x = pure x := by
  intro x
  cases e <;> first | rfl | cases h
theorem asg_cons (h : notStar e = true) : (assignEach (e :: es) env).map (·.2) = assign e env :: (assignEach es env).map (·.2) := by cases e <;> first | rfl | cases h
theorem asg_len : ∀ {es : List Expr}, (assignEach es env).length = es.length
  | [] => rfl
  | e :: es => by cases e <;> (show (assignEach es env).length + 1 = es.length + 1; rw [asg_len])
theorem asg_find : ∀ {es : List Expr}, es.all notStar = true → (assignEach es env).findIdx? (·.1) = none
  | [], _ => rfl
  | e :: es, h => by
    rw [List.all_cons, Bool.and_eq_true] at h
    have ih := asg_find h.2
    have : assignEach (e :: es) env = (false, assign e env) :: assignEach es env := by
      cases e <;> first | rfl | (exact (Bool.noConfusion (show false = true from h.1)))
    rw [this, List.findIdx?_cons]
    simp [ih]
end

/-! ### the compiler -/
def opB : Operator → Option BOp
  | .Add => some .add | .Sub => some .sub | .Mult => some .mul | .FloorDiv => some .fdiv | .Mod => some .mod | .LShift => some .shl | .BitAnd => some .band | .BitOr => some .bor
  | _ => none
theorem opB_some {o : Operator} {b : BOp} (h : opB o = some b) : o = opOf b := by cases o <;> first | (cases h; rfl) | cases h
def opC : CmpOp → Option COp
  | .Eq => some .eq | .NotEq => some .ne | .Lt => some .lt | .LtE => some .le | .Gt => some .gt | .GtE => some .ge | .Is => some .isN | .IsNot => some .notN
  | _ => none
theorem opC_some {o : CmpOp} {b : COp} (h : opC o = some b) : o = copOf b := by cases o <;> first | (cases h; rfl) | cases h
def opI : CmpOp → Option Bool
  | .In => some false | .NotIn => some true
  | _ => none
theorem opI_some {o : CmpOp} {b : Bool} (h : opI o = some b) : o = inOp b := by cases o <;> first | (cases h; rfl) | cases h

/-- what is made of an expression, and why -/
abbrev CE (G : Glb) (cs : Cs) (e : Expr) := { m : M U // ∀ X a Φ k, XOk G cs X a Φ k → SE X a Φ e m }
abbrev CH (G : Glb) (cs : Cs) (e : Expr) := { m : M Hd // ∀ X a Φ k, XOk G cs X a Φ k → SH X a Φ e m }
abbrev CT (G : Glb) (cs : Cs) (e : Expr) := { m : M Bool // ∀ X a Φ k, XOk G cs X a Φ k → STt X a Φ e m }
abbrev CW (G : Glb) (cs : Cs) (e : Expr) := { m : M Bool // ∀ X a Φ k, XOk G cs X a Φ k → SW X a Φ e m }
abbrev CA (G : Glb) (cs : Cs) (es : List Expr) := { m : M (List U) // ∀ X a Φ k, XOk G cs X a Φ k → SA X a Φ es m }
abbrev CI (G : Glb) (cs : Cs) (tg e : Expr) := { m : M (List U) // ∀ X a Φ k, XOk G cs X a Φ k → SI X a Φ tg e m }
abbrev CG (G : Glb) (cs : Cs) (tg : Expr) := { f : (List Nat) × (U → M Unit) // (∀ X a Φ k, XOk G cs X a Φ k → SG X a Φ f.1 tg f.2) ∧ NoEx f.2 }
abbrev CGs (G : Glb) (cs : Cs) (tg : List Expr) := { f : (List Nat) × (List U → M Unit) // (∀ X a Φ k, XOk G cs X a Φ k → SGs X a Φ f.1 tg f.2) ∧ ∀ u Φ s c g v s', f.2 u Φ s ≠ some (.ex c g v s') }
abbrev CO (G : Glb) (cs : Cs) (e : Expr) := { m : M SV // ∀ X a Φ k, XOk G cs X a Φ k → SO X a Φ e m }

/-- the place of a local name -/
def slot (cs : Cs) (x : Str) : Option { i : Nat // cs.N[i]? = some x } := match h : cs.N.findIdx? (fun y => decide (y = x)) with
  | some i => if q : cs.N[i]? = some x then some ⟨i, q⟩ else none
  | none => none
def okName (x : Str) : Bool := !(x == ("__debug__" : Str)) && !(x == ("__classdict__" : Str))
theorem okName1 {x : Str} (h : okName x = true) : (x == ("__debug__" : Str)) = false ∧ (x == ("__classdict__" : Str)) = false := by
  unfold okName at h
  rw [Bool.and_eq_true] at h
  exact ⟨by simpa using h.1, by simpa using h.2⟩
def isVis : Option NameKind → Bool
  | some .local => true
  | some .cell => true
  | some .free => true
  | _ => false
def isLoc : Option NameKind → Bool
  | some .local => true
  | some .cell => true
  | _ => false
def isGlb : Option NameKind → Bool
  | some .globalImplicit => true
  | _ => false
theorem isVis_some {k : Option NameKind} (h : isVis k = true) : ∃ kd, k = some kd ∧ (kd = .local ∨ kd = .cell ∨ kd = .free) := by
  cases k with
  | none => cases h
  | some k => cases k <;> first | (exact (Bool.noConfusion (show false = true from h))) | exact ⟨_, rfl, by simp⟩
theorem isLoc_some {k : Option NameKind} (h : isLoc k = true) : ∃ kd, k = some kd ∧ (kd = .local ∨ kd = .cell) := by
  cases k with
  | none => cases h
  | some k => cases k <;> first | (exact (Bool.noConfusion (show false = true from h))) | exact ⟨_, rfl, by simp⟩
theorem isGlb_some {k : Option NameKind} (h : isGlb k = true) : k = some .globalImplicit := by
  cases k with
  | none => cases h
  | some k => cases k <;> first | (exact (Bool.noConfusion (show false = true from h))) | rfl
section
variable {G : Glb} {cs : Cs} {X : Cx} {a : Act} {Φ : Phi} {k : Nat}
theorem XOk.hu (h : XOk G cs X a Φ k) : X.A.units + 70 < cLine := by have := h.room.un; omega
theorem XOk.vis' (h : XOk G cs X a Φ k) {x : Str} (v : isVis (cs.sc.names.lookup x) = true) : Vis X.env.scope x := by
  obtain ⟨kd, h1, h2⟩ := isVis_some v
  exact h.vis x kd h1 h2
theorem XOk.loc' (h : XOk G cs X a Φ k) {x : Str} (v : isLoc (cs.sc.names.lookup x) = true) : Loc X.env.scope x ∧ (X.fn x = true ∨ X.env.scope.names.lookup x = some .local) := by
  obtain ⟨kd, h1, h2⟩ := isLoc_some v
  exact h.loc x kd h1 h2
theorem XOk.gl' (h : XOk G cs X a Φ k) {x : Str} (v : isGlb (cs.sc.names.lookup x) = true) : Gl X x := h.gl x (isGlb_some v)
/-- a block's context -/
def Cs.blk (cs : Cs) (scope : Scope) : Cs := { cs with sc := scope, top := false }
theorem blk_of {N : List Str} {sc sc' scope : Scope} {own : List (Str × Nat)} (h : BlkOk N sc scope own) (f : ∀ x kd, sc.names.lookup x = some kd → (kd = .cell ∨ kd = .free) → sc'.names.lookup x = some .cell ∨ sc'.names.lookup x = some .free) : BlkOk N sc' scope own :=
  ⟨h.kind, h.uniq, h.ix, fun y hy e => by
    rcases h.free y hy e with q | q
    · exact f _ _ q (.inl rfl)
    · exact f _ _ q (.inr rfl), h.own⟩
theorem XOk.blkOk (h : XOk G cs X a Φ k) {scope : Scope} {own : List (Str × Nat)} (b : blkC cs.N cs.sc scope own = true) : BlkOk X.N X.env.scope scope own := by
  rw [h.N]
  exact blk_of (blkOk_by b) h.fr
theorem lookup_mem' {α : Type} : ∀ {l : List (Str × α)} {x : Str} {v : α}, l.lookup x = some v → (x, v) ∈ l := fun h => PySem.mem_of_lookup h
theorem lookup_free {env : Env} {x : Str} : ∀ {names : List (Str × NameKind)}, names.lookup x = some .free →
    (names.map fun (n, k) => if (k == NameKind.free && env.scope.kind == .function && env.kindOf n == some .cell) then (n, NameKind.cell) else (n, k)).lookup x = some .cell ∨
    (names.map fun (n, k) => if (k == NameKind.free && env.scope.kind == .function && env.kindOf n == some .cell) then (n, NameKind.cell) else (n, k)).lookup x = some .free
  | [], h => by simp at h
  | (n, k₀) :: r, h => by
    have ih := @lookup_free env x r
    show List.lookup x ((if (k₀ == NameKind.free && env.scope.kind == .function && env.kindOf n == some .cell) = true then (n, NameKind.cell) else (n, k₀)) :: (r.map _)) = _ ∨ List.lookup x ((if (k₀ == NameKind.free && env.scope.kind == .function && env.kindOf n == some .cell) = true then (n, NameKind.cell) else (n, k₀)) :: (r.map _)) = _
    by_cases hc : (k₀ == NameKind.free && env.scope.kind == .function && env.kindOf n == some .cell) = true
    · rw [if_pos hc]
      cases hx : x == n with
      | true => simp [List.lookup_cons, hx]
      | false =>
        simp only [List.lookup_cons, hx] at h ⊢
        exact ih h
    · rw [if_neg hc]
      cases hx : x == n with
      | true =>
        simp only [List.lookup_cons, hx] at h ⊢
        exact .inr h
      | false =>
        simp only [List.lookup_cons, hx] at h ⊢
        exact ih h
theorem XOk.blk (h : XOk G cs X a Φ k) {scope : Scope} {own : List (Str × Nat)} (bo : blkC cs.N cs.sc scope own = true) (s : Shared) (H : Hp) (C : Addr) (cl : List (Str × Addr)) (fp : List Addr) (b : Act) (ib : InB a b) :
    XOk G (cs.blk scope) (X.blk s H scope (compEnvC scope cl C X.env) fp) b Φ k := by
  have ok := blkOk_by bo
  have keep : ∀ {x : Str} {kd : NameKind}, kd ≠ .free → scope.names.lookup x = some kd → (relabel scope X.env).names.lookup x = some kd := fun {x kd} hk hl => lookup_relS_keep (sc := X.env.scope) hk hl
  have free : ∀ {x : Str}, scope.names.lookup x = some .free → (relabel scope X.env).names.lookup x = some .cell ∨ (relabel scope X.env).names.lookup x = some .free := fun {x} hl => lookup_free hl
  refine ⟨h.K.trans ib.K.symm, h.calm, h.nd, h.N, ok.kind, fun x kd hl hk => ?_, fun x kd hl hk => ?_, fun x hl => keep (by decide) hl, fun x hl => ?_, fun x kd hl hk => ?_, h.room, ?_, ?_, fun z => Bool.noConfusion z⟩
  · rcases hk with rfl | rfl | rfl
    · exact .inl (keep (by decide) hl)
    · exact .inr (.inl (keep (by decide) hl))
    · exact .inr (free hl)
  · rcases hk with rfl | rfl
    · exact ⟨.inl (keep (by decide) hl), .inr (keep (by decide) hl)⟩
    · refine ⟨.inr (keep (by decide) hl), .inl ?_⟩
      show (scope.names.lookup x == some .cell) = true
      rw [show scope.names.lookup x = some .cell from hl]; rfl
  · exact keep (by decide) hl
  · rcases hk with rfl | rfl
    · exact .inl (keep (by decide) hl)
    · exact free hl
  · rw [ib.E]; exact takes0
  · rw [ib.cls]; exact h.glb
end
end EL
set_option Elab.async false
set_option linter.all false
set_option maxRecDepth 100000
/-! EC14: the compiler of expressions and statements. -/
namespace EL
open PySem PySem.Spec PyProof.Rows L2

/-! ### small words -/
def eNeg (m : M U) : M U := bnd m fun u => match u with
  | .int i => ret (.int (-i))
  | _ => fail
/-- target = e, the target a row of names -/
def sAsgT (m : M U) (f : U → M Unit) : M Fl := bnd m fun u => bnd (f u) fun _ => ret .nx
section
variable {a : Act} {X : Cx} {Φ : Phi} {e tg : Expr} {m : M U} {pos : Pos} {f : U → M Unit} {sl : List Nat}
theorem se_neg (h : SE X a Φ e m) : SE X a Φ (.UnaryOp .USub e pos) (eNeg m) :=
  PE.imp (pe_un un_neg h) fun σ H Q q => TR.one q fun w H s u x rx k => by
    cases u <;> first | exact k.2.elim | skip
    cases rx
    exact ⟨_, rfl, Out.now (Sat.ret k) k.1 (.int _)⟩
theorem ss_asgT (h : SE X a Φ e m) (hg : SG X a Φ sl tg f) (hf : NoEx f) (ht : notStar tg = true) (hs : swapsWithSole [tg] e pos.line X.env = pure false) (hw : swappedStores [tg] e X.env = pure none) : SS X a Φ (.Assign [tg] e pos) (sAsgT m f) :=
  PS.imp (ps_asg h hg hs hw (h1 := by rw [asg_cons ht]; rfl)) fun D σ H q => TSs.one (r1 := relU a) q fun w H s u v ru k => by
    obtain ⟨R, k⟩ := k
    refine ⟨w, s, u, ru, R, ?_⟩
    unfold bnd at k
    cases e : f u Φ s with
    | none => rw [e] at k; exact k
    | some z =>
      rw [e] at k
      cases z with
      | ex c g v s' => exact hf u Φ s c g v s' e
      | ok _ s' => exact fun w' H' σ' st R' _ => k w' H' σ' st R'
end
theorem noEx_name {i : Nat} : NoEx (tgName i) := by
  intro u Φ s c g v s' h
  unfold tgName at h
  split at h <;> cases h
theorem noEx_tup {n : Nat} {g : List U → M Unit} (hg : ∀ u Φ s c q v s', g u Φ s ≠ some (.ex c q v s')) : NoEx (tgTup n g) := by
  intro u Φ s c q v s' h
  unfold tgTup at h
  split at h
  · split at h
    · exact hg _ _ _ _ _ _ _ h
    · cases h
  · cases h
theorem noEx_nil : ∀ u Φ s c q v s', tgsNil u Φ s ≠ some (.ex c q v s') := by
  intro u Φ s c q v s' h
  unfold tgsNil at h
  split at h <;> cases h
theorem noEx_cons {f : U → M Unit} {g : List U → M Unit} (hf : NoEx f) (hg : ∀ u Φ s c q v s', g u Φ s ≠ some (.ex c q v s')) : ∀ u Φ s c q v s', tgsCons f g u Φ s ≠ some (.ex c q v s') := by
  intro u Φ s c q v s' h
  unfold tgsCons at h
  split at h
  · unfold bnd at h
    split at h
    · cases h
    · exact hg _ _ _ _ _ _ _ h
    · rename_i e
      exact hf _ _ _ _ _ _ _ e
  · cases h

/-! ### targets -/
mutual
def cG (G : Glb) : Nat → (cs : Cs) → (tg : Expr) → Option (CG G cs tg)
  | 0, _, _ => none
  | n + 1, cs, .Name x p => match slot cs x with
    | some ⟨i, hi⟩ => if hl : isLoc (cs.sc.names.lookup x) = true then some ⟨([i], tgName i), fun X a Φ k h => sg_name h.nd (by rw [h.N]; exact hi) (h.loc' hl).1 (h.loc' hl).2, noEx_name⟩ else none
    | none => none
  | n + 1, cs, .Tuple es kk p => match cGs G n cs es with
    | some f => if hs : es.all notStar = true then some ⟨(f.1.1, tgTup es.length f.1.2), fun X a Φ k h => sg_tup h.K h.calm (f.2.1 X a Φ k h) asg_len (asg_find hs), noEx_tup f.2.2⟩ else none
    | none => none
  | _ + 1, _, _ => none
def cGs (G : Glb) : Nat → (cs : Cs) → (es : List Expr) → Option (CGs G cs es)
  | 0, _, _ => none
  | n + 1, cs, [] => some ⟨([], tgsNil), fun X a Φ k h => sgs_nil, noEx_nil⟩
  | n + 1, cs, e :: es => match cG G n cs e, cGs G n cs es with
    | some f, some g => if hs : notStar e = true then some ⟨(f.1.1 ++ g.1.1, tgsCons f.1.2 g.1.2), fun X a Φ k h => sgs_cons (f.2.1 X a Φ k h) (g.2.1 X a Φ k h) (asg_cons hs), noEx_cons f.2.2 g.2.2⟩ else none
    | _, _ => none
end

abbrev CWo (G : Glb) (cs : Cs) (op : BoolOp) (es : List Expr) (p : Pos) := { m : M Bool // ∀ X a Φ k, XOk G cs X a Φ k → SW X a Φ (.BoolOp op es p) m }
abbrev CBo (G : Glb) (cs : Cs) (op : BoolOp) (es : List Expr) (p : Pos) := { m : M U // ∀ X a Φ k, XOk G cs X a Φ k → SE X a Φ (.BoolOp op es p) m }
abbrev CTs (G : Glb) (cs : Cs) (es : List Expr) := { m : M Bool // ∀ X a Φ k, XOk G cs X a Φ k → STs X a Φ es m }
/-- the names of a block with their slots -/
def ownOf (cs : Cs) (scope : Scope) : List (Str × Nat) := scope.names.filterMap fun y => match y.2 with
  | .local => (slot cs y.1).map fun i => (y.1, i.1)
  | .cell => (slot cs y.1).map fun i => (y.1, i.1)
  | _ => none
def subL (sl vs : List Nat) : Bool := sl.all fun j => vs.contains j
theorem subL_ok {sl vs : List Nat} (h : subL sl vs = true) : ∀ j, j ∈ sl → j ∈ vs := fun j hj => by
  unfold subL at h
  rw [List.all_eq_true] at h
  simpa using h j hj
/-- a name that is free -/
def freeB (G : Glb) (cs : Cs) (x y : Str) : Bool := decide (x = y) && isGlb (cs.sc.names.lookup y) && G.free.contains y
theorem freeB_ok {G : Glb} {cs : Cs} {x y : Str} {X : Cx} {a : Act} {Φ : Phi} {k : Nat} (b : freeB G cs x y = true) (h : XOk G cs X a Φ k) : x = y ∧ Gl X y ∧ X.mg y = none := by
  unfold freeB at b
  simp only [Bool.and_eq_true, decide_eq_true_eq] at b
  exact ⟨b.1.1, h.gl' b.1.2, h.glb.free y b.2⟩

mutual
/-- an expression -/
def cE (G : Glb) : Nat → (cs : Cs) → (e : Expr) → Option (CE G cs e)
  | 0, _, _ => none
  | n + 1, cs, .Constant (.int i) j p => some ⟨eC (.int i), fun X a Φ k h => se_int⟩
  | n + 1, cs, .Constant (.bool b) j p => some ⟨eC (.bl b), fun X a Φ k h => se_bl⟩
  | n + 1, cs, .Constant .none j p => some ⟨eC .non, fun X a Φ k h => se_non⟩
  | n + 1, cs, .Constant (.str x) j p => some ⟨eC (.str x), fun X a Φ k h => se_str⟩
  | n + 1, cs, .Name x p =>
    if hn : okName x = true then
      if hv : isVis (cs.sc.names.lookup x) = true then match slot cs x with
        | some ⟨i, hi⟩ => some ⟨eVar i, fun X a Φ k h => se_var (by rw [h.N]; exact hi) (h.vis' hv) (okName1 hn).1 (okName1 hn).2⟩
        | none => none
      else if hg : isGlb (cs.sc.names.lookup x) = true then match q : G.consts.lookup x with
        | some i => some ⟨eC (.int i), fun X a Φ k h => by
            obtain ⟨u, h1, h2⟩ := h.glb.consts x i q
            exact se_glob (h.gl' hg) h1 h2 (okName1 hn).1⟩
        | none => none
      else none
    else none
  | n + 1, cs, .BinOp e1 o e2 p => match q : opB o, cE G n cs e1, cE G n cs e2 with
    | some b, some m1, some m2 => some ⟨eBop b m1.1 m2.1, fun X a Φ k h => by rw [opB_some q]; exact se_bop h.K b (m1.2 X a Φ k h) (m2.2 X a Φ k h)⟩
    | _, _, _ => none
  | n + 1, cs, .UnaryOp .Not e p => (cE G n cs e).map fun m => ⟨eNot m.1, fun X a Φ k h => se_not (m.2 X a Φ k h)⟩
  | n + 1, cs, .UnaryOp .USub e p => (cE G n cs e).map fun m => ⟨eNeg m.1, fun X a Φ k h => se_neg (m.2 X a Φ k h)⟩
  | n + 1, cs, .BoolOp op es p => cBo G n cs op es p
  | n + 1, cs, .Compare e1 [o] [e2] p => match q : opC o with
    | some b => (match cE G n cs e1, cE G n cs e2 with
      | some m1, some m2 => some ⟨eCop b m1.1 m2.1, fun X a Φ k h => by rw [opC_some q]; exact se_cop h.K (by have := h.hu; omega) b (m1.2 X a Φ k h) (m2.2 X a Φ k h)⟩
      | _, _ => none)
    | none => (match q : opI o, cE G n cs e1, cH G n cs e2 with
      | some b, some m1, some m2 => if hb : behindInMarks (inOp b) e2 = false then some ⟨eMem b m1.1 m2.1, fun X a Φ k h => by rw [opI_some q]; exact se_mem h.K (by have := h.hu; omega) b (m1.2 X a Φ k h) (m2.2 X a Φ k h) hb⟩ else none
      | _, _, _ => none)
  | n + 1, cs, .Compare e1 [o, o'] [e2, e3] p => match q : opC o, q' : opC o' with
    | some b, some b' => (match cE G n cs e1, cE G n cs e2, cE G n cs e3 with
      | some m1, some m2, some m3 => if hm : lastMarks [copOf b, copOf b'] [e2, e3] = false then some ⟨eChain b b' m1.1 m2.1 m3.1, fun X a Φ k h => by rw [opC_some q, opC_some q']; exact se_chain h.K (by have := h.hu; omega) b b' (m1.2 X a Φ k h) (m2.2 X a Φ k h) (m3.2 X a Φ k h) hm⟩ else none
      | _, _, _ => none)
    | _, _ => none
  | n + 1, cs, .IfExp t e1 e2 p => match cT G n cs t, cE G n cs e1, cE G n cs e2 with
    | some t, some m1, some m2 => some ⟨eIf t.1 m1.1 m2.1, fun X a Φ k h => se_if (t.2 X a Φ k h) (m1.2 X a Φ k h) (m2.2 X a Φ k h)⟩
    | _, _, _ => none
  | n + 1, cs, .Tuple es kk p => (cA G n cs es).map fun ms => ⟨eTup ms.1, fun X a Φ k h => se_tup (ms.2 X a Φ k h)⟩
  | n + 1, cs, .List es p => (cO G n cs (.List es p)).map fun m => if cs.cell = true then ⟨eCell m.1, fun X a Φ k h => se_cell (m.2 X a Φ k h)⟩ else ⟨eFz m.1, fun X a Φ k h => se_fz (m.2 X a Φ k h)⟩
  | n + 1, cs, .Dict ks vs p => (cO G n cs (.Dict ks vs p)).map fun m => if cs.cell = true then ⟨eCell m.1, fun X a Φ k h => se_cell (m.2 X a Φ k h)⟩ else ⟨eFz m.1, fun X a Φ k h => se_fz (m.2 X a Φ k h)⟩
  | n + 1, cs, .ListComp e gs sc p => (cO G n cs (.ListComp e gs sc p)).map fun m => if cs.cell = true then ⟨eCell m.1, fun X a Φ k h => se_cell (m.2 X a Φ k h)⟩ else ⟨eFz m.1, fun X a Φ k h => se_fz (m.2 X a Φ k h)⟩
  | n + 1, cs, .Subscript e1 e2 p => if hs : isSlice e2 = false then (match cH G n cs e1, cE G n cs e2 with
      | some m1, some m2 => some ⟨eGet m1.1 m2.1, fun X a Φ k h => se_get h.K (by have := h.hu; omega) (m1.2 X a Φ k h) (m2.2 X a Φ k h) (plainIx hs)⟩
      | _, _ => none) else none
  | n + 1, cs, .Call (.Name x p0) [e] [] p =>
    if hs : notStar e = true then
      if b : freeB G cs x "len" = true then (cH G n cs e).map fun m => ⟨eLen m.1, fun X a Φ k h => by obtain ⟨h1, h2, h3⟩ := freeB_ok b h; rw [h1]; exact se_len h2 h3 (m.2 X a Φ k h) h.K (star_cons hs)⟩
      else if b : freeB G cs x "tuple" = true then (cH G n cs e).map fun m => ⟨eTupleOf m.1, fun X a Φ k h => by obtain ⟨h1, h2, h3⟩ := freeB_ok b h; rw [h1]; exact se_tupleOf h2 h3 (m.2 X a Φ k h) h.K (star_cons hs)⟩
      else if b : freeB G cs x "list" = true then (cH G n cs e).map fun m => ⟨eListOf m.1, fun X a Φ k h => by obtain ⟨h1, h2, h3⟩ := freeB_ok b h; rw [h1]; exact se_listOf h2 h3 (m.2 X a Φ k h) h.K (star_cons hs)⟩
      else if b : freeB G cs x "sorted" = true then (cH G n cs e).map fun m => ⟨eSorted m.1, fun X a Φ k h => by obtain ⟨h1, h2, h3⟩ := freeB_ok b h; rw [h1]; exact se_sorted h.hu h2 h3 (m.2 X a Φ k h) h.K (star_cons hs)⟩
      else if b : freeB G cs x "int" = true then (cE G n cs e).map fun m => ⟨eInt1 m.1, fun X a Φ k h => by obtain ⟨h1, h2, h3⟩ := freeB_ok b h; rw [h1]; exact se_int1 h2 h3 (m.2 X a Φ k h) (star_cons hs)⟩
      else cF G n cs x p0 e [] p
    else none
  | n + 1, cs, .Call (.Name x p0) (e1 :: e2 :: es) [] p =>
    if hs : (e1 :: e2 :: es).all notStar = true then
      if b : freeB G cs x "min" = true then (cA G n cs (e1 :: e2 :: es)).map fun m => ⟨eMM2 true m.1, fun X a Φ k h => by
        obtain ⟨h1, h2, h3⟩ := freeB_ok b h
        rw [h1]
        rw [List.all_cons, Bool.and_eq_true] at hs
        exact se_min2 h.calm h2 h3 (m.2 X a Φ k h) (star_cons hs.1) (star_any hs.2)⟩
      else if b : freeB G cs x "max" = true then (cA G n cs (e1 :: e2 :: es)).map fun m => ⟨eMM2 false m.1, fun X a Φ k h => by
        obtain ⟨h1, h2, h3⟩ := freeB_ok b h
        rw [h1]
        rw [List.all_cons, Bool.and_eq_true] at hs
        exact se_max2 h.calm h2 h3 (m.2 X a Φ k h) (star_cons hs.1) (star_any hs.2)⟩
      else cF G n cs x p0 e1 (e2 :: es) p
    else none
  | n + 1, cs, .Call (.Attribute o x ap) [] [] p =>
    if hx : x = "pop" then
      if hl : (ap.endLine == p.line) = true then
        if hb : isCall0 o = false then (cH G n cs o).map fun m => ⟨ePop m.1, fun X a Φ k h => by rw [hx]; exact se_pop (m.2 X a Φ k h) (attr_base hb) hl⟩
        else none
      else none
    else none
  | n + 1, cs, .Call (.Attribute o x ap) [e] [] p =>
    if hl : (ap.endLine == p.line) = true then
      if hb : isCall0 o = false then
        if hs : notStar e = true then
          if hx : x = "append" then (match cH G n cs o, cE G n cs e with
            | some mh, some m => some ⟨eApp mh.1 m.1, fun X a Φ k h => by rw [hx]; exact se_app (mh.2 X a Φ k h) (m.2 X a Φ k h) (attr_base hb) hl (star_cons hs)⟩
            | _, _ => none)
          else if hx : x = "pop" then (match cH G n cs o, cE G n cs e with
            | some mh, some m => some ⟨ePopAt mh.1 m.1, fun X a Φ k h => by rw [hx]; exact se_popAt (mh.2 X a Φ k h) (m.2 X a Φ k h) (attr_base hb) hl (star_cons hs)⟩
            | _, _ => none)
          else none
        else none
      else none
    else none
  | _ + 1, _, _ => none
/-- a call of a def of the text -/
def cF (G : Glb) : Nat → (cs : Cs) → (x : Str) → (p0 : Pos) → (e : Expr) → (es : List Expr) → (p : Pos) → Option (CE G cs (.Call (.Name x p0) (e :: es) [] p))
  | 0, _, _, _, _, _, _ => none
  | n + 1, cs, x, p0, e, es, p => match q : G.funs.lookup x, cA G n cs (e :: es) with
    | some (f, np), some ms => if hs : (e :: es).all notStar = true then if hg : isGlb (cs.sc.names.lookup x) = true then if hn : okName x = true then some ⟨eCall f np ms.1, fun X a Φ k h => by
        obtain ⟨fa, fd, ps, h1, h2, h3, h4⟩ := h.glb.funs x f np q
        rw [List.all_cons, Bool.and_eq_true] at hs
        exact se_call h.K h4 h.room (h.gl' hg) h1 h2 h3 h.tk (ms.2 X a Φ k h) (okName1 hn).1 (star_cons hs.1) (star_any hs.2)⟩ else none else none else none
    | _, _ => none
def cH (G : Glb) : Nat → (cs : Cs) → (e : Expr) → Option (CH G cs e)
  | 0, _, _ => none
  | n + 1, cs, .Name x p =>
    if hn : okName x = true then
      if hv : isVis (cs.sc.names.lookup x) = true then match slot cs x with
        | some ⟨i, hi⟩ => some ⟨mSlot i, fun X a Φ k h => sh_slot (by rw [h.N]; exact hi) (h.vis' hv) (okName1 hn).1 (okName1 hn).2⟩
        | none => none
      else none
    else none
  | n + 1, cs, e => (cE G n cs e).map fun m => ⟨hdl m.1, fun X a Φ k h => sh_of (m.2 X a Φ k h)⟩
def cT (G : Glb) : Nat → (cs : Cs) → (e : Expr) → Option (CT G cs e)
  | 0, _, _ => none
  | n + 1, cs, .UnaryOp .Not e p => (cT G n cs e).map fun m => ⟨tNot' m.1, fun X a Φ k h => st_not (m.2 X a Φ k h)⟩
  | n + 1, cs, .BoolOp op es p => (cWo G n cs op es p).map fun m => ⟨m.1, fun X a Φ k h => sw_pt (m.2 X a Φ k h)⟩
  | n + 1, cs, .Compare e1 [o] [e2] p => match q : opC o with
    | some b => (match cE G n cs e1, cE G n cs e2 with
      | some m1, some m2 => some ⟨tV (eCop b m1.1 m2.1), fun X a Φ k h => by rw [opC_some q]; exact st_cop h.K (by have := h.hu; omega) b (m1.2 X a Φ k h) (m2.2 X a Φ k h)⟩
      | _, _ => none)
    | none => (match q : opI o, cE G n cs e1, cH G n cs e2 with
      | some b, some m1, some m2 => if hb : behindInMarks (inOp b) e2 = false then some ⟨tV (eMem b m1.1 m2.1), fun X a Φ k h => by rw [opI_some q]; exact st_mem h.K (by have := h.hu; omega) b (m1.2 X a Φ k h) (m2.2 X a Φ k h) hb⟩ else none
      | _, _, _ => none)
  | n + 1, cs, e => if hp : plainT e = true then (cH G n cs e).map fun m => ⟨tTru m.1, fun X a Φ k h => st_tru h.K (m.2 X a Φ k h) (isTrue_plain' hp)⟩ else none
def cWo (G : Glb) : Nat → (cs : Cs) → (op : BoolOp) → (es : List Expr) → (p : Pos) → Option (CWo G cs op es p)
  | 0, _, _, _, _ => none
  | n + 1, cs, .And, [e], p => (cT G n cs e).map fun m => ⟨m.1, fun X a Φ k h => sw_and1 (m.2 X a Φ k h)⟩
  | n + 1, cs, .Or, [e], p => (cT G n cs e).map fun m => ⟨m.1, fun X a Φ k h => sw_or1 (m.2 X a Φ k h)⟩
  | n + 1, cs, .And, e :: e' :: es, p => match cT G n cs e, cWo G n cs .And (e' :: es) p with
    | some m1, some m2 => some ⟨tAnd' m1.1 m2.1, fun X a Φ k h => sw_and (m1.2 X a Φ k h) (m2.2 X a Φ k h)⟩
    | _, _ => none
  | n + 1, cs, .Or, e :: e' :: es, p => match cT G n cs e, cWo G n cs .Or (e' :: es) p with
    | some m1, some m2 => some ⟨tOr' m1.1 m2.1, fun X a Φ k h => sw_or (m1.2 X a Φ k h) (m2.2 X a Φ k h)⟩
    | _, _ => none
  | _ + 1, _, _, _, _ => none
def cBo (G : Glb) : Nat → (cs : Cs) → (op : BoolOp) → (es : List Expr) → (p : Pos) → Option (CBo G cs op es p)
  | 0, _, _, _, _ => none
  | n + 1, cs, op, [e], p => (cE G n cs e).map fun m => ⟨m.1, fun X a Φ k h => se_and1 (m.2 X a Φ k h)⟩
  | n + 1, cs, .And, e :: e' :: es, p => match cE G n cs e, cBo G n cs .And (e' :: es) p with
    | some m1, some m2 => some ⟨eAnd m1.1 m2.1, fun X a Φ k h => se_and (m1.2 X a Φ k h) (m2.2 X a Φ k h)⟩
    | _, _ => none
  | n + 1, cs, .Or, e :: e' :: es, p => match cE G n cs e, cBo G n cs .Or (e' :: es) p with
    | some m1, some m2 => some ⟨eOr m1.1 m2.1, fun X a Φ k h => se_or (m1.2 X a Φ k h) (m2.2 X a Φ k h)⟩
    | _, _ => none
  | _ + 1, _, _, _, _ => none
def cA (G : Glb) : Nat → (cs : Cs) → (es : List Expr) → Option (CA G cs es)
  | 0, _, _ => none
  | n + 1, cs, [] => some ⟨aNil, fun X a Φ k h => sa_nil⟩
  | n + 1, cs, e :: es => match cE G n cs e, cA G n cs es with
    | some m, some ms => if hs : notStar e = true then some ⟨aCons m.1 ms.1, fun X a Φ k h => sa_cons (m.2 X a Φ k h) (ms.2 X a Φ k h) (star_cons hs)⟩ else none
    | _, _ => none
def cTs (G : Glb) : Nat → (cs : Cs) → (es : List Expr) → Option (CTs G cs es)
  | 0, _, _ => none
  | n + 1, cs, [] => some ⟨ret true, fun X a Φ k h => sts_nil⟩
  | n + 1, cs, [e] => (cT G n cs e).map fun m => ⟨m.1, fun X a Φ k h => sts_one (m.2 X a Φ k h)⟩
  | _ + 1, _, _ => none
/-- a fresh list or dict -/
def cO (G : Glb) : Nat → (cs : Cs) → (e : Expr) → Option (CO G cs e)
  | 0, _, _ => none
  | n + 1, cs, .List es p => (cA G n cs es).map fun m => ⟨oLst m.1, fun X a Φ k h => so_lst (m.2 X a Φ k h)⟩
  | n + 1, cs, .ListComp e [⟨tg, it, ifs, ia⟩] sc p => match cI G n cs tg it, cG G n (cs.blk sc) tg, cTs G n (cs.blk sc) ifs, cE G n (cs.blk sc) e with
    | some mi, some f, some t, some m => if h0 : ia = 0 then if hb : blkC cs.N cs.sc sc (ownOf cs sc) = true then if hi : isSet it = false then if hs : subL f.1.1 ((ownOf cs sc).map (·.2)) = true then
        some ⟨oLC mi.1 f.1.2 t.1 m.1 ((ownOf cs sc).map (·.2)), fun X a Φ k h => by
          rw [h0]
          exact so_lc h.K h.calm h.nd (mi.2 X a Φ k h) (h.blkOk hb) (subL_ok hs) (fun s H C cl fp b ib => f.2.1 _ b Φ k (h.blk hb s H C cl fp b ib)) (fun s H C cl fp b ib => t.2 _ b Φ k (h.blk hb s H C cl fp b ib)) (fun s H C cl fp b ib => m.2 _ b Φ k (h.blk hb s H C cl fp b ib)) (no_set hi)⟩
      else none else none else none else none
    | _, _, _, _ => none
  | n + 1, cs, .ListComp e [⟨tg, it, ifs, ia⟩, ⟨tg1, it1, ifs1, ia1⟩] sc p => match cI G n cs tg it, cG G n (cs.blk sc) tg, cTs G n (cs.blk sc) ifs, cE G n (cs.blk sc) e with
    | some mi, some f, some t, some m => (match cI G n (cs.blk sc) tg1 it1, cG G n (cs.blk sc) tg1, cTs G n (cs.blk sc) ifs1 with
      | some mi1, some f1, some t1 => if h0 : ia = 0 ∧ ia1 = 0 then if hb : blkC cs.N cs.sc sc (ownOf cs sc) = true then if hi : isSet it = false ∧ isSet it1 = false then if hs : subL f.1.1 ((ownOf cs sc).map (·.2)) = true ∧ subL f1.1.1 ((ownOf cs sc).map (·.2)) = true then
          some ⟨oLC2 mi.1 f.1.2 t.1 mi1.1 f1.1.2 t1.1 m.1 ((ownOf cs sc).map (·.2)) f1.1.1, fun X a Φ k h => by
            rw [h0.1, h0.2]
            exact so_lc2 h.K h.calm h.nd (mi.2 X a Φ k h) (h.blkOk hb) (subL_ok hs.1) (fun j hj => hj) (subL_ok hs.2) (fun s H C cl fp b ib => f.2.1 _ b Φ k (h.blk hb s H C cl fp b ib)) (fun s H C cl fp b ib => t.2 _ b Φ k (h.blk hb s H C cl fp b ib))
              (fun s H C cl fp b ib => mi1.2 _ b Φ k (h.blk hb s H C cl fp b ib)) (fun s H C cl fp b ib => f1.2.1 _ b Φ k (h.blk hb s H C cl fp b ib)) (fun s H C cl fp b ib => t1.2 _ b Φ k (h.blk hb s H C cl fp b ib)) (fun s H C cl fp b ib => m.2 _ b Φ k (h.blk hb s H C cl fp b ib)) (no_set hi.1) (fun env => no_set hi.2)⟩
        else none else none else none else none
      | _, _, _ => none)
    | _, _, _, _ => none
  | _ + 1, _, _ => none
/-- what is walked -/
def cI (G : Glb) : Nat → (cs : Cs) → (tg e : Expr) → Option (CI G cs tg e)
  | 0, _, _, _ => none
  | n + 1, cs, tg, .Call (.Name x p0) [e] [] p =>
    if b : freeB G cs x "range" = true then (match cA G n cs [e] with
      | some m => if hs : notStar e = true then some ⟨iRange m.1, fun X a Φ k h => by obtain ⟨h1, h2, h3⟩ := freeB_ok b h; rw [h1]; exact si_range h2 h3 (m.2 X a Φ k h) (star_cons hs)⟩ else none
      | none => none)
    else (cE G n cs (.Call (.Name x p0) [e] [] p)).map fun m => ⟨iItems m.1, fun X a Φ k h => si_seq h.K (m.2 X a Φ k h)⟩
  | n + 1, cs, tg, .Call (.Name x p0) [e, e1] [] p =>
    if b : freeB G cs x "range" = true then (match cA G n cs [e, e1] with
      | some m => if hs : notStar e = true ∧ notStar e1 = true then some ⟨iRange2 m.1, fun X a Φ k h => by obtain ⟨h1, h2, h3⟩ := freeB_ok b h; rw [h1]; exact si_range2 h2 h3 (m.2 X a Φ k h) (by rw [star_cons hs.1, star_cons hs.2]; rfl) (star_cons hs.2)⟩ else none
      | none => none)
    else (cE G n cs (.Call (.Name x p0) [e, e1] [] p)).map fun m => ⟨iItems m.1, fun X a Φ k h => si_seq h.K (m.2 X a Φ k h)⟩
  | n + 1, cs, tg, e => (cE G n cs e).map fun m => ⟨iItems m.1, fun X a Φ k h => si_seq h.K (m.2 X a Φ k h)⟩
end
end EL
set_option Elab.async false
set_option linter.all false
set_option maxRecDepth 100000
/-! EC15: the compiler of statements. -/
namespace EL
open PySem PySem.Spec PyProof.Rows L2

abbrev CS (G : Glb) (cs : Cs) (s : Stmt) := { m : M Fl // ∀ X a Φ k, XOk G cs X a Φ k → SS X a Φ s m }
abbrev CB (G : Glb) (cs : Cs) (s : List Stmt) := { m : M Fl // ∀ X a Φ k, XOk G cs X a Φ k → SB X a Φ s m }

theorem sub_asg {e1 e2 : Expr} {pos' : Pos} {env : Env} (h : isSlice e2 = false) : ∀ v, assign (.Subscript e1 e2 pos') env v = (do
      let ov ← holding [v] (eval e1 env)
      let iv ← holding [v, ov] (eval e2 env)
      standAt pos'
      holding [v, ov, iv] (setItem ov iv v)
      release [v, ov, iv] []) := by
  intro v
  cases e2 <;> first | rfl | cases h
def lineOk (py pos : Pos) : Bool := py.line == pos.line
def notIn (scope : Scope) (y : Str) : Bool := (scope.names.any fun (n, k) => n == y && (k == .local || k == .cell)) == false
theorem XOk.swap {G : Glb} {cs : Cs} {X : Cx} {a : Act} {Φ : Phi} {k : Nat} (h : XOk G cs X a Φ k) {elt : Expr} {gs : List Comprehension} {scope : Scope} {pos py : Pos} {y : Str} (hy : cs.sc.names.lookup y = some .local) (hl : lineOk py pos = true) (ha : notIn scope y = true) {l : Nat} :
    swapsWith (.ListComp elt gs scope pos) (some (.Name y py)) l X.env = pure true := by
  refine sw_true h.kind (h.lcl y hy) hl ?_
  unfold notIn at ha
  exact eq_of_beq ha
/-- name = [..] -/
def cL (G : Glb) (n : Nat) (cs : Cs) (x : Str) (p' : Pos) (e : Expr) (pos : Pos) : Option (CS G cs (.Assign [.Name x p'] e pos)) := match e with
  | .ListComp e [⟨tg, it, ifs, ia⟩] sc p => match slot cs x, cI G n cs tg it, cG G n (cs.blk sc) tg, cTs G n (cs.blk sc) ifs, cE G n (cs.blk sc) e with
    | some ⟨i, hx⟩, some mi, some f, some t, some m => if h0 : ia = 0 then if hb : blkC cs.N cs.sc sc (ownOf cs sc) = true then if hi : isSet it = false then if hs : subL f.1.1 ((ownOf cs sc).map (·.2)) = true then if hq : cs.sc.names.lookup x = some .local ∧ lineOk p' p = true ∧ notIn sc x = true then
        some ⟨sOwn i (oLC mi.1 f.1.2 t.1 m.1 ((ownOf cs sc).map (·.2))), fun X a Φ k h => by
          rw [h0]
          exact ss_lc (by rw [h.N]; exact hx) (h.lcl x hq.1) (h.swap hq.1 hq.2.1 hq.2.2) h.K h.calm h.nd (mi.2 X a Φ k h) (h.blkOk hb) (subL_ok hs) (fun s H C cl fp b ib => f.2.1 _ b Φ k (h.blk hb s H C cl fp b ib)) (fun s H C cl fp b ib => t.2 _ b Φ k (h.blk hb s H C cl fp b ib)) (fun s H C cl fp b ib => m.2 _ b Φ k (h.blk hb s H C cl fp b ib)) (no_set hi)⟩
      else none else none else none else none else none
    | _, _, _, _, _ => none
  | .ListComp e [⟨tg, it, ifs, ia⟩, ⟨tg1, it1, ifs1, ia1⟩] sc p => match cI G n cs tg it, cG G n (cs.blk sc) tg, cTs G n (cs.blk sc) ifs, cE G n (cs.blk sc) e with
    | some mi, some f, some t, some m => (match slot cs x, cI G n (cs.blk sc) tg1 it1, cG G n (cs.blk sc) tg1, cTs G n (cs.blk sc) ifs1 with
      | some ⟨i, hx⟩, some mi1, some f1, some t1 => if h0 : ia = 0 ∧ ia1 = 0 then if hb : blkC cs.N cs.sc sc (ownOf cs sc) = true then if hi : isSet it = false ∧ isSet it1 = false then if hs : subL f.1.1 ((ownOf cs sc).map (·.2)) = true ∧ subL f1.1.1 ((ownOf cs sc).map (·.2)) = true then if hq : cs.sc.names.lookup x = some .local ∧ lineOk p' p = true ∧ notIn sc x = true then
          some ⟨sOwn i (oLC2 mi.1 f.1.2 t.1 mi1.1 f1.1.2 t1.1 m.1 ((ownOf cs sc).map (·.2)) f1.1.1), fun X a Φ k h => by
            rw [h0.1, h0.2]
            exact ss_lc2 (by rw [h.N]; exact hx) (h.lcl x hq.1) (h.swap hq.1 hq.2.1 hq.2.2) h.K h.calm h.nd (mi.2 X a Φ k h) (h.blkOk hb) (subL_ok hs.1) (fun j hj => hj) (subL_ok hs.2) (fun s H C cl fp b ib => f.2.1 _ b Φ k (h.blk hb s H C cl fp b ib)) (fun s H C cl fp b ib => t.2 _ b Φ k (h.blk hb s H C cl fp b ib))
              (fun s H C cl fp b ib => mi1.2 _ b Φ k (h.blk hb s H C cl fp b ib)) (fun s H C cl fp b ib => f1.2.1 _ b Φ k (h.blk hb s H C cl fp b ib)) (fun s H C cl fp b ib => t1.2 _ b Φ k (h.blk hb s H C cl fp b ib)) (fun s H C cl fp b ib => m.2 _ b Φ k (h.blk hb s H C cl fp b ib)) (no_set hi.1) (fun env => no_set hi.2)⟩
        else none else none else none else none else none
      | _, _, _, _ => none)
    | _, _, _, _ => none
  | _ => none

mutual
def cS (G : Glb) : Nat → (cs : Cs) → (s : Stmt) → Option (CS G cs s)
  | 0, _, _ => none
  | n + 1, cs, .Pass p => some ⟨sNext, fun X a Φ k h => ss_pass⟩
  | n + 1, cs, .Break p => some ⟨sBreak, fun X a Φ k h => ss_break⟩
  | n + 1, cs, .Continue p => some ⟨sCont, fun X a Φ k h => ss_cont⟩
  | n + 1, cs, .Expr e p => if hc : isComp e = false then (cE G n cs e).map fun m => ⟨sExpr m.1, fun X a Φ k h => ss_expr (m.2 X a Φ k h) (swaps_no hc)⟩ else none
  | n + 1, cs, .Return none p => some ⟨sRetN, fun X a Φ k h => ss_retN⟩
  | n + 1, cs, .Return (some e) p => (cE G n cs e).map fun m => ⟨sRet m.1, fun X a Φ k h => ss_ret (m.2 X a Φ k h)⟩
  | n + 1, cs, .Assign [.Name x p'] e p => match slot cs x with
    | some ⟨i, hi⟩ => if hl : isLoc (cs.sc.names.lookup x) = true then
        if hc : isComp e = false then
          if cs.own.contains i = true then (match e with
            | .Dict [] [] pe => if cs.tk.contains i = true then some ⟨sOwn i (oDic true), fun X a Φ k h => ss_own h.nd (by rw [h.N]; exact hi) (h.loc' hl).1 (h.loc' hl).2 so_dicT (swaps_no hc)⟩
              else some ⟨sOwn i (oDic false), fun X a Φ k h => ss_own h.nd (by rw [h.N]; exact hi) (h.loc' hl).1 (h.loc' hl).2 so_dicK (swaps_no hc)⟩
            | e => (cO G n cs e).map fun m => ⟨sOwn i m.1, fun X a Φ k h => ss_own h.nd (by rw [h.N]; exact hi) (h.loc' hl).1 (h.loc' hl).2 (m.2 X a Φ k h) (swaps_no hc)⟩)
          else (cE G n cs e).map fun m => ⟨sSet i m.1, fun X a Φ k h => ss_set h.nd (by rw [h.N]; exact hi) (h.loc' hl).1 (h.loc' hl).2 (m.2 X a Φ k h) (swaps_no hc)⟩
        else cL G n cs x p' e p
      else none
    | none => none
  | n + 1, cs, .Assign [.Subscript e1 e2 p'] e p => if hi : isSlice e2 = false then (match cH G n cs e1, cE G n cs e2, cE G n cs e with
      | some mh, some m2, some m => some ⟨sItem mh.1 m2.1 m.1, fun X a Φ k h => ss_item (by have := h.hu; omega) (mh.2 X a Φ k h) (m2.2 X a Φ k h) (m.2 X a Φ k h) (sub_asg hi) swaps_sub sst_sub⟩
      | _, _, _ => none) else none
  | n + 1, cs, .Assign [.Tuple es kk p'] e p => if ht : isTup e = false then (match cE G n cs e, cG G n cs (.Tuple es kk p') with
      | some m, some f => some ⟨sAsgT m.1 f.1.2, fun X a Φ k h => ss_asgT (m.2 X a Φ k h) (f.2.1 X a Φ k h) f.2.2 rfl swaps_tup (sst_tup ht)⟩
      | _, _ => none) else none
  | n + 1, cs, .If c s1 s2 p => match cT G n cs c, cB G n cs s1, cB G n cs s2 with
    | some t, some m1, some m2 => some ⟨sIf t.1 m1.1 m2.1, fun X a Φ k h => ss_if (t.2 X a Φ k h) (m1.2 X a Φ k h) (m2.2 X a Φ k h)⟩
    | _, _, _ => none
  | n + 1, cs, .For tg it body [] p => if ht : cs.top = true then if hi : isSet it = false then (match cI G n cs tg it, cG G n cs tg, cB G n cs body with
      | some mi, some f, some m => some ⟨sFor mi.1 f.1.2 m.1, fun X a Φ k h => ss_for (h.pass ht) h.calm (mi.2 X a Φ k h) (f.2.1 X a Φ k h) f.2.2 (m.2 X a Φ k h) (no_set hi)⟩
      | _, _, _ => none) else none else none
  | _ + 1, _, _ => none
def cB (G : Glb) : Nat → (cs : Cs) → (s : List Stmt) → Option (CB G cs s)
  | 0, _, _ => none
  | n + 1, cs, [] => some ⟨sNext, fun X a Φ k h => sb_nil⟩
  | n + 1, cs, [s] => (cS G n cs s).map fun m => ⟨m.1, fun X a Φ k h => sb_one (m.2 X a Φ k h)⟩
  | n + 1, cs, s :: ss => match cS G n cs s, cB G n cs ss with
    | some m, some m' => some ⟨sSeq m.1 m'.1, fun X a Φ k h => sb_cons (m.2 X a Φ k h) (m'.2 X a Φ k h)⟩
    | _, _ => none
end
end EL
set_option Elab.async false
set_option linter.all false
set_option maxRecDepth 100000
/-! EC16: the defs of a text, all at once. -/
namespace EL
open PySem PySem.Spec PyProof.Rows L2

/-- one def: what the text says of it, its slots, its parameters, its E program -/
structure DE where
  d : He.DefD
  N : List Str
  ps : List Str
  own : List Nat
  tk : List Nat
  cell : Bool
  m : M Fl
def DE.cs (e : DE) : Cs := ⟨e.N, e.d.scope, e.own, e.tk, e.cell, true⟩
def envAt (e : DE) (us : List U) : List SV := us.map SV.val ++ List.replicate (e.N.length - us.length) .no
def runD (e : DE) (Φ : Phi) (us : List U) (hp : List EO) : Option FR := match e.m Φ ⟨envAt e us, hp⟩ with
  | none => none
  | some (.ok (.rt u) s) => some (.ok u s.hp)
  | some (.ok .nx s) => some (.ok .non s.hp)
  | some (.ok _ _) => none
  | some (.ex c f v s) => some (.ex c f v s.hp)
def findD (tb : List DE) (q : Str) : Option DE := tb.find? fun e => decide (e.d.qual = q)
/-- the table, so deep -/
def phi (tb : List DE) : Nat → Phi
  | 0 => fun _ _ _ => none
  | n + 1 => fun q us hp => match findD tb q with
    | some e => if us.length = e.ps.length then runD e (phi tb n) us hp else none
    | none => none

/-- a def's text answers its E program -/
structure DE.Ok (G : Glb) (e : DE) : Prop where
  S : FnScope e.N e.ps e.d.scope
  body : ∀ X a Φ k, XOk G e.cs X a Φ k → SB X a Φ e.d.body e.m
  dfl : e.d.dfl = []
  kwd : e.d.kwd = []
  bind : ∀ (kV doc pm : Value) (an : Option Addr) (cdv ct : Value) (us : List Value), us.length = e.ps.length → bindArgs (PySem.W.fnOf e.d.name e.d.qual e.d.params e.d.body e.d.scope .none kV doc pm an cdv ct) ⟨us, []⟩ = pure (e.ps.zip us)
theorem chk_body {G : Glb} {cs : Cs} {b : List Stmt} {m : M Fl} {n : Nat} (h : (cB G n cs b).map (·.1) = some m) : ∀ X a Φ k, XOk G cs X a Φ k → SB X a Φ b m := by
  cases e : cB G n cs b with
  | none => rw [e] at h; cases h
  | some z => rw [e] at h; cases h; exact z.2
def nodupB : List Str → Bool
  | [] => true
  | x :: xs => !xs.contains x && nodupB xs
theorem nodupB_ok : ∀ {l : List Str}, nodupB l = true → l.Nodup
  | [], _ => .nil
  | x :: xs, h => by
    unfold nodupB at h
    rw [Bool.and_eq_true] at h
    refine List.nodup_cons.mpr ⟨fun z => ?_, nodupB_ok h.2⟩
    have h1 := h.1
    simp [z] at h1
def kFun : ScopeKind → Bool
  | .function => true
  | _ => false
def kLoc : Option NameKind → Bool
  | some .local => true
  | some .cell => true
  | _ => false
def notFree : NameKind → Bool
  | .free => false
  | _ => true
def scopeB (N ps : List Str) (sc : Scope) : Bool := kFun sc.kind && !sc.isCoroutine && !sc.isGenerator && nodupB N && decide (N.take ps.length = ps) && (ps.all fun x => kLoc (sc.names.lookup x)) && sc.names.all fun y => notFree y.2
theorem scopeB_ok {N ps : List Str} {sc : Scope} (h : scopeB N ps sc = true) : FnScope N ps sc := by
  unfold scopeB at h
  simp only [Bool.and_eq_true, List.all_eq_true, Bool.not_eq_true'] at h
  obtain ⟨⟨⟨⟨⟨⟨h1, h2⟩, h3⟩, h4⟩, h5⟩, h6⟩, h7⟩ := h
  refine ⟨?_, h2, h3, nodupB_ok h4, of_decide_eq_true h5, fun x hx => ?_, fun y hy => ?_⟩
  · cases q : sc.kind <;> first | rfl | (rw [q] at h1; cases h1)
  · have q := h6 x hx
    cases e : sc.names.lookup x with
    | none => rw [e] at q; cases q
    | some z => rw [e] at q; cases z <;> first | exact .inl rfl | exact .inr rfl | cases q
  · have q := h7 y hy
    intro z
    rw [z] at q
    cases q

section
variable {P : Program} {w : World} {K : PySem.W.Frag} {mg : Str → Option Value} {base : Heap} {cls : Str → Addr} {Φ : Phi} {G : Glb}
theorem relStart {e : DE} {wd : W} {hp : List EO} {us : List U} {vs : List V} {H : Hp} {E : XK} (R : Rel (entry K cls wd H E) wd [] hp [] H) (r : RUs K cls wd H us vs) : Rel (entry K cls wd H E) wd (envAt e us) hp (L2.start e.N vs) H := by
  have hl := r.length
  refine { R with len := ?_, slot := fun i s q => ?_, own := fun i s p q ho => ?_, apart := fun i j s t p q1 q2 h1 h2 => ?_ }
  · simp [envAt, L2.start, hl]
  · unfold envAt at q
    unfold L2.start
    by_cases hi : i < us.length
    · rw [List.getElem?_append_left (by simpa using hi), List.getElem?_map] at q
      rw [List.getElem?_append_left (by simpa [← hl] using hi), List.getElem?_map]
      cases e1 : us[i]? with
      | none => rw [e1] at q; cases q
      | some u =>
        rw [e1] at q
        cases q
        obtain ⟨v, h1, h2⟩ := r.get e1
        rw [h1]
        exact ⟨v, rfl, h2⟩
    · rw [List.getElem?_append_right (by simpa using Nat.le_of_not_lt hi)] at q
      have : s = .no := by
        have := List.mem_of_getElem? q
        exact List.eq_of_mem_replicate this
      rw [this]
      trivial
  · have : isOwn s = false := by
      unfold envAt at q
      have := List.mem_of_getElem? q
      rcases List.mem_append.mp this with z | z
      · obtain ⟨u, _, h⟩ := List.mem_map.mp z
        rw [← h]; rfl
      · rw [List.eq_of_mem_replicate z]; rfl
    rw [this] at ho; cases ho
  · have : isOwn s = false := by
      unfold envAt at q1
      have := List.mem_of_getElem? q1
      rcases List.mem_append.mp this with z | z
      · obtain ⟨u, _, h⟩ := List.mem_map.mp z
        rw [← h]; rfl
      · rw [List.eq_of_mem_replicate z]; rfl
    rw [this] at q2; cases q2
theorem body_holds {e : DE} {wd : W} {hp : List EO} {us : List U} {vs : List V} {H : Hp} {E : XK} {Q : VK} (R : Rel (entry K cls wd H E) wd [] hp [] H) (r : RUs K cls wd H us vs)
    (h : match runD e Φ us hp with
      | none => False
      | some (.ok u hp') => Out (entry K cls wd H E) wd [] H ⟨[], hp'⟩ (relU (entry K cls wd H E)) u Q
      | some (.ex c f v hp') => XOut (entry K cls wd H E) wd H ⟨[], hp'⟩ c f v) : TSs (entry K cls wd H E) Φ e.m { nx := fun _ H' => Q .non H', rt := Q } (L2.start e.N vs) H := by
  refine ⟨wd, ⟨envAt e us, hp⟩, relStart R r, ?_⟩
  unfold runD at h
  cases q : e.m Φ ⟨envAt e us, hp⟩ with
  | none => rw [q] at h; exact h
  | some z =>
    rw [q] at h
    cases z with
    | ex c f v s => exact fun w' H' d y σ' st R' ry hd => h w' H' d y [] st R'.drop ry hd
    | ok fl s =>
      cases fl with
      | nx => exact fun w' H' σ' st R' => h w' H' .non st R'.drop .non
      | rt u => exact fun w' H' σ' st R' v ru => h w' H' v st R'.drop ru
      | bk => exact h.elim
      | ct => exact h.elim
theorem fn_zero {tb : List DE} {f : Addr} {fd : FuncData} {ps : List Str} {q : Str} : FnOk P w K mg base (L2.CX P w) 0 f fd ps (spE K cls (phi tb 0) q ps.length) :=
  ⟨fun vs H Q E h => h.1, fun A outer s H args us vs Q E hr e0 hb r hs => by
    obtain ⟨_, wd, hp, xs, _, _, h⟩ := hs
    exact (show False from h).elim⟩
theorem fn_succ {tb : List DE} {e : DE} {f : Addr} {fd : FuncData} {n : Nat} (ok : e.Ok G) (hf : findD tb e.d.qual = some e) (F : FunD K e.d.name e.d.qual e.d.params e.d.body e.d.scope [] [] f fd) (g : GOk G P w K mg base cls (phi tb n) n) :
    FnOk P w K mg base (L2.CX P w) (n + 1) f fd e.ps (spE K cls (phi tb (n + 1)) e.d.qual e.ps.length) := by
  refine F.ok ok.S (fun vs H Q E h => h.1) fun cdv A outer s H vs Q E hr h => ?_
  obtain ⟨hl, wd, hp, us, ru, R, h⟩ := h
  refine ⟨TSs (entry K cls wd H E) (phi tb n) e.m, ok.body _ (entry K cls wd H E) (phi tb n) n ⟨rfl, rfl, ok.S.nd, rfl, ok.S.kind, fun x kd hx hk => ?_, fun x kd hx hk => ?_, fun x hx => hx, fun x hx => hx, fun x kd hx hk => ?_, hr, takes_of rfl rfl rfl rfl, g, fun _ => passes_of rfl⟩, body_holds R ru ?_⟩
  · rcases hk with rfl | rfl | rfl
    · exact .inl hx
    · exact .inr (.inl hx)
    · exact .inr (.inr hx)
  · rcases hk with rfl | rfl
    · exact ⟨.inl hx, .inl rfl⟩
    · exact ⟨.inr hx, .inl rfl⟩
  · rcases hk with rfl | rfl
    · exact .inl hx
    · exact .inr hx
  · have hu : us.length = e.ps.length := ru.length.trans hl
    simp only [callM, phi, hf, hu, if_true] at h
    cases q : runD e (phi tb n) us hp with
    | none => rw [q] at h; exact h
    | some z => rw [q] at h; cases z <;> exact h

/-- the text, by its table -/
structure TxtOk (G : Glb) (tb : List DE) (fa : List He.Fa) : Prop where
  each : ∀ e ∈ tb, e.Ok G
  funs : ∀ x q np, G.funs.lookup x = some (q, np) → ∃ e ∈ tb, e.d.at_ = (x, none) ∧ e.d.qual = q ∧ e.ps.length = np ∧ He.Fa.glo x ∈ fa
  find : ∀ e ∈ tb, findD tb e.d.qual = some e
  consts : ∀ x i, G.consts.lookup x = some i → He.Fa.int x i ∈ fa
  free : ∀ x, G.free.contains x = true → He.Fa.free x ∈ fa
theorem fact' {fa : List He.Fa} {fn : List He.DefD} (c : He.SaysD fa fn K) {f : He.Fa} (h : f ∈ fa) : f.ok K = true := by
  obtain ⟨i, hi⟩ := List.mem_iff_getElem?.mp h
  exact c.fact i hi
theorem def' {tb : List DE} {fa : List He.Fa} (c : He.SaysD fa (tb.map (·.d)) K) {e : DE} (h : e ∈ tb) (ok : e.Ok G) : ∃ fd, FunD K e.d.name e.d.qual e.d.params e.d.body e.d.scope [] [] (He.fAd K e.d.at_) fd := by
  obtain ⟨i, hi⟩ := List.mem_iff_getElem?.mp h
  obtain ⟨fd, F⟩ := c.def_ i (d := e.d) (by rw [List.getElem?_map, hi]; rfl)
  have h1 : e.d.dvs K = [] := by unfold He.DefD.dvs; rw [ok.dfl]; rfl
  have h2 : e.d.kws K = [] := by unfold He.DefD.kws; rw [ok.kwd]; rfl
  rw [h1, h2] at F
  exact ⟨fd, F⟩
theorem all_step {tb : List DE} {fa : List He.Fa} {h : Heap} {n : Nat} (t : TxtOk G tb fa) (X : K.In h) (Gn : h.Ns mainGlobals mg) (c : He.SaysD fa (tb.map (·.d)) K)
    (hF : ∀ e ∈ tb, e.Ok G → ∀ fd : FuncData, FunD K e.d.name e.d.qual e.d.params e.d.body e.d.scope [] [] (He.fAd K e.d.at_) fd → FnOk P w K mg base (L2.CX P w) n (He.fAd K e.d.at_) fd e.ps (spE K cls (phi tb n) e.d.qual e.ps.length)) : GOk G P w K mg base cls (phi tb n) n := by
  refine ⟨fun x q np hx => ?_, fun x i hx => ?_, fun x hx => ?_⟩
  · obtain ⟨e, he, ha, rfl, rfl, hg⟩ := t.funs x q np hx
    have ok := t.each e he
    obtain ⟨fd, F⟩ := def' c he ok
    have hm := He.glo_ok X Gn (fact' c hg)
    have q := hF e he ok fd F
    have hfa : He.fAd K e.d.at_ = He.ga K x := by rw [ha]; rfl
    rw [hfa] at F q
    exact ⟨He.ga K x, fd, e.ps, hm, F.kp, F.bindsN ok.bind, q⟩
  · obtain ⟨u, hu⟩ := He.int_ok X Gn (fact' c (t.consts x i hx))
    exact ⟨_, hu, ⟨u, rfl⟩⟩
  · exact He.free_ok X Gn (fact' c (t.free x hx))
theorem all_ok {tb : List DE} {fa : List He.Fa} {h : Heap} (t : TxtOk G tb fa) (X : K.In h) (Gn : h.Ns mainGlobals mg) (c : He.SaysD fa (tb.map (·.d)) K) : ∀ n, GOk G P w K mg base cls (phi tb n) n := by
    intro n
    induction n with
    | zero => exact all_step t X Gn c fun e _ _ _ _ => fn_zero
    | succ n ih => exact all_step t X Gn c fun e he ok fd F => fn_succ ok (t.find e he) F ih
end

/-! ### the law -/
theorem walk_E {l : PySem.W.OpenLaw} {n k : Nat} {q : Program} {loose : List Str} {XP : (Str → Option Value) → Heap → Prop} {YP : World → Heap → Prop} {d : DefRec} {CX : World → CXT} {x : Str}
    (hn : l.most = some n) (hn2 : n ≤ sizeLine) (hdf : d.params.defaults = []) (hr : Room k callerA)
    (F : ∀ (w : World) (mg : Str → Option Value) (fa : Addr) (h : Heap), YP w h → h.Ns mainGlobals mg → mg d.name = some (.ref fa) →
      ∃ (K : PySem.W.Frag) (fd : FuncData) (sp : Sp), K.In h ∧ (∀ (s : Shared) (u : Value), BindsTo s fd ⟨[u], []⟩ [(x, u)]) ∧
        (∀ (H : Hp) (a : Addr) (ns : List Int), ns.length ≤ n → Only H → SqL K H a (ns.map V.int) → sp [.ref a] H (fun v _ => v = .bl true) fun _ _ _ => False) ∧
        ∀ base : Heap, K.In base → base.Ns mainGlobals mg → FnOk l.prog w K mg base (CX w) k fa fd [x] sp)
    (hCX : ∀ (w : World) (H : Hp) (s : Shared) (e : Value) (s' : Shared), CX w [] H s (fun _ _ _ => False) e s' → False) :
    PySem.W.WalkO q loose XP YP l.row.toRowW d [] (fun f vs => PySem.call f vs) := by
  refine Att.attach_call hn hdf fun w s₀ s₁ mg mb fa o pm cd doc a vs ns G Y ho hd hcd hmg hobj hints hlen hg => ?_
  obtain ⟨K, fd, sp, KX, hb, hsp, hF⟩ := F w mg fa _ Y G.T.g hmg
  exact law_call KX G.T.g G.T.b G.T.builtins G.T.nolimit hg hobj hints (Nat.le_trans hlen hn2) hr hF hb (fun H hO hS => hsp H a ns hlen hO hS) fun H e s' => hCX w H s₁ e s'
theorem cx_no {P : Program} {w : World} {H : Hp} {s : Shared} {e : Value} {s' : Shared} (h : L2.CX P w [] H s (fun _ _ _ => False) e s') : False := by
  obtain ⟨_, _, _, _, _, _, _, _, _, _, _, _, z⟩ := h
  exact z
/-- the law's promise from its E run -/
theorem sp_law {K : PySem.W.Frag} {cls : Str → Addr} {Φ : Phi} {H : Hp} {a : Addr} {ns : List Int} {hp' : List EO} {q : Str} (hS : SqL K H a (ns.map V.int)) (h : Φ q [.scr ns] [] = some (.ok (.bl true) hp')) : spE K cls Φ q 1 [.ref a] H (fun v _ => v = .bl true) fun _ _ _ => False := by
  have hw : ∃ wd : W, RU K cls wd H (.scr ns) (.ref a) ∧ wd.ρ = [] ∧ ∀ x, wd.F x → H x ≠ none := by
    rcases hS with hS | hS
    · refine ⟨⟨fun x => x = a, []⟩, .scr rfl hS, rfl, fun x hx => ?_⟩
      have hx : x = a := hx
      rw [hx]
      rcases hS with z | ⟨o, z⟩ <;> (rw [z]; exact fun z => nomatch z)
    · exact ⟨⟨fun _ => False, []⟩, .scrK fun _ => .inr hS, rfl, fun x hx => hx.elim⟩
  obtain ⟨wd, r, hρ, hF⟩ := hw
  obtain ⟨F, ρ⟩ := wd
  cases hρ
  refine ⟨rfl, ⟨F, []⟩, [], [.scr ns], .cons r .nil, ?_, ?_⟩
  · exact { len := rfl, slot := fun i s e => by simp at e, own := fun i s p e => by simp at e, apart := fun i j s t p e => by simp at e, clen := rfl, cnd := List.nodup_nil, cell := fun i o p e => by simp at e, cellF := fun p hp => by simp at hp, cell0 := fun p hp => by simp at hp, pre := fun i p e => e, frame := fun x o hx _ => hx, frz := hF, F0 := fun x hx => .inl hx, Fpre := fun x hx => hx }
  · simp only [callM, h]
    intro w' H' y st R r
    cases r
    rfl
theorem law_facts {G : Glb} {tb : List DE} {fa : List He.Fa} {P : Program} {w : World} {K : PySem.W.Frag} {h : Heap} {mg : Str → Option Value} {f : Addr} {x : Str} {e : DE} (t : TxtOk G tb fa) (X : K.In h) (Gn : h.Ns mainGlobals mg) (c : He.SaysD fa (tb.map (·.d)) K)
    (he : e ∈ tb) (ha : e.d.at_ = (x, none)) (hg : He.Fa.glo x ∈ fa) (hfa : mg x = some (.ref f)) (hps : e.ps = [("script" : Str)]) (k : Nat) : ∃ fd : FuncData, (∀ (s : Shared) (v : Value), BindsTo s fd ⟨[v], []⟩ [("script", v)]) ∧
      ∀ base : Heap, K.In base → base.Ns mainGlobals mg → FnOk P w K mg base (L2.CX P w) (k + 1) f fd ["script"] (spE K (He.ga K) (phi tb (k + 1)) e.d.qual 1) := by
  have ok := t.each e he
  obtain ⟨fd, F⟩ := def' c he ok
  have hm := hfa.symm.trans (He.glo_ok X Gn (fact' c hg))
  have hfa : He.fAd K e.d.at_ = He.ga K x := by rw [ha]; rfl
  rw [hfa] at F
  cases hm
  have b := FunD.bindsA (ps := e.ps) F ok.bind
  refine ⟨fd, fun s v => ?_, fun base _ hb => ?_⟩
  · have q := b s [v] (by rw [hps]; rfl)
    rw [hps] at q
    exact q
  · have q := fn_succ (P := P) (w := w) (base := base) (cls := He.ga K) ok (t.find e he) F (all_ok (P := P) (w := w) (base := base) (cls := He.ga K) t X Gn c k)
    rw [hps] at q
    exact q
end EL
namespace EL
open PySem PySem.Spec PyProof.Rows L2
/-! ### the table's checks -/
def funsB (G : Glb) (tb : List DE) (fa : List He.Fa) : Bool := G.funs.all fun z => match tb.find? (fun e => decide (e.d.at_ = (z.1, none))) with
  | some e => decide (e.d.qual = z.2.1) && decide (e.ps.length = z.2.2) && fa.any fun f => match f with
    | .glo x => decide (x = z.1)
    | _ => false
  | none => false
def findB (tb : List DE) : Bool := nodupB (tb.map fun e => e.d.qual)
def constB (G : Glb) (fa : List He.Fa) : Bool := G.consts.all fun z => fa.any fun f => match f with
  | .int x i => decide (x = z.1) && decide (i = z.2)
  | _ => false
def freeFB (G : Glb) (fa : List He.Fa) : Bool := G.free.all fun z => fa.any fun f => match f with
  | .free x => decide (x = z)
  | _ => false
theorem findD_ok : ∀ {tb : List DE}, (tb.map fun e => e.d.qual).Nodup → ∀ e ∈ tb, findD tb e.d.qual = some e
  | [], _, e, h => by cases h
  | x :: xs, nd, e, h => by
    rw [List.map_cons, List.nodup_cons] at nd
    unfold findD
    rw [List.find?_cons]
    rcases List.mem_cons.mp h with rfl | h
    · simp
    · have ne : x.d.qual ≠ e.d.qual := fun z => nd.1 (by rw [z]; exact List.mem_map.mpr ⟨e, h, rfl⟩)
      simp only [ne, decide_false]
      exact findD_ok nd.2 e h
theorem txt_by {G : Glb} {tb : List DE} {fa : List He.Fa} (h1 : funsB G tb fa = true) (h2 : findB tb = true) (h3 : constB G fa = true) (h4 : freeFB G fa = true) (h : ∀ e ∈ tb, e.Ok G) : TxtOk G tb fa := by
  refine ⟨h, fun x q np hx => ?_, findD_ok (nodupB_ok h2), fun x i hx => ?_, fun x hx => ?_⟩
  · have hm := PySem.mem_of_lookup hx
    have z := List.all_eq_true.mp h1 _ hm
    cases e1 : tb.find? (fun e => decide (e.d.at_ = ((x, (q, np)).1, none))) with
    | none => rw [e1] at z; cases z
    | some e =>
      rw [e1] at z
      simp only [Bool.and_eq_true, decide_eq_true_eq, List.any_eq_true] at z
      obtain ⟨⟨z1, z2⟩, f, hf, z3⟩ := z
      have ha := List.find?_some e1
      refine ⟨e, List.mem_of_find?_eq_some e1, by simpa using ha, z1, z2, ?_⟩
      cases f <;> first | cases z3 | skip
      rename_i y
      have : y = x := of_decide_eq_true z3
      rw [← this]; exact hf
  · have hm := PySem.mem_of_lookup hx
    have z := List.all_eq_true.mp h3 _ hm
    rw [List.any_eq_true] at z
    obtain ⟨f, hf, z⟩ := z
    cases f <;> first | cases z | skip
    rw [Bool.and_eq_true, decide_eq_true_eq, decide_eq_true_eq] at z
    obtain ⟨rfl, rfl⟩ := z
    exact hf
  · have hm : x ∈ G.free := by simpa using hx
    have z := List.all_eq_true.mp h4 _ hm
    rw [List.any_eq_true] at z
    obtain ⟨f, hf, z⟩ := z
    cases f <;> first | cases z | skip
    rename_i y
    have : y = x := of_decide_eq_true z
    rw [← this]; exact hf
end EL
set_option Elab.async false
set_option linter.all false
set_option maxRecDepth 100000
/-! EM1: what an E program does, by its words. -/
namespace EL
open PySem (Str PyData)

/-- m ends well and Q stands, or it raises and E stands -/
def wp0 {α : Type} (m : M α) (Φ : Phi) (s : S) (Q : α → S → Prop) (E : Str → Str → U → List EO → Prop) : Prop := match m Φ s with
  | none => False
  | some (.ok x s') => Q x s'
  | some (.ex c f v s') => E c f v s'.hp
/-- the same of a call -/
def wq0 (Φ : Phi) (q : Str) (us : List U) (hp : List EO) (Q : U → List EO → Prop) (E : Str → Str → U → List EO → Prop) : Prop := match Φ q us hp with
  | none => False
  | some (.ok u hp') => Q u hp'
  | some (.ex c f v hp') => E c f v hp'

inductive wp {α : Type} (m : M α) (Φ : Phi) (s : S) (Q : α → S → Prop) (E : Str → Str → U → List EO → Prop) : Prop
  | mk : wp0 m Φ s Q E → wp m Φ s Q E
inductive wq (Φ : Phi) (q : Str) (us : List U) (hp : List EO) (Q : U → List EO → Prop) (E : Str → Str → U → List EO → Prop) : Prop
  | mk : wq0 Φ q us hp Q E → wq Φ q us hp Q E
theorem wp_def {α : Type} {m : M α} {Φ : Phi} {s : S} {Q : α → S → Prop} {E : Str → Str → U → List EO → Prop} : wp m Φ s Q E ↔ wp0 m Φ s Q E := ⟨fun ⟨h⟩ => h, .mk⟩
theorem wq_def {Φ : Phi} {q : Str} {us : List U} {hp : List EO} {Q : U → List EO → Prop} {E : Str → Str → U → List EO → Prop} : wq Φ q us hp Q E ↔ wq0 Φ q us hp Q E := ⟨fun ⟨h⟩ => h, .mk⟩
inductive oB {α : Type} (o : Option α) (k : α → Prop) : Prop
  | mk (x : α) : o = some x → k x → oB o k
@[simp] theorem oB_none {α : Type} {k : α → Prop} : oB none k ↔ False := ⟨fun ⟨x, h, _⟩ => (nomatch h), fun h => False.elim h⟩
@[simp] theorem oB_some {α : Type} {x : α} {k : α → Prop} : oB (some x) k ↔ k x := ⟨fun ⟨y, h, q⟩ => by cases h; exact q, fun q => ⟨x, rfl, q⟩⟩
@[simp] theorem oB_map {α β : Type} {f : α → β} {o : Option α} {k : β → Prop} : oB (o.map f) k ↔ oB o fun x => k (f x) := by cases o <;> simp
theorem oB_match {α : Type} {o : Option α} {k : α → Prop} : oB o k ↔ (match o with
  | none => False
  | some x => k x) := by cases o <;> simp
section
variable {α β : Type} {Φ : Phi} {s : S} {Q : α → S → Prop} {E : Str → Str → U → List EO → Prop}
theorem wp_imp {Q' : α → S → Prop} {m : M α} (h : wp m Φ s Q E) (i : ∀ x s', Q x s' → Q' x s') : wp m Φ s Q' E := by
  rw [wp_def] at h ⊢; unfold wp0 at h ⊢
  cases e : m Φ s with
  | none => rw [e] at h; exact h
  | some r => rw [e] at h; cases r with
    | ok x s' => exact i _ _ h
    | ex c f v s' => exact h
theorem wq_imp {Q Q' : U → List EO → Prop} {q : Str} {us : List U} {hp : List EO} (h : wq Φ q us hp Q E) (i : ∀ x s', Q x s' → Q' x s') : wq Φ q us hp Q' E := by
  rw [wq_def] at h ⊢; unfold wq0 at h ⊢
  cases e : Φ q us hp with
  | none => rw [e] at h; exact h
  | some r => rw [e] at h; cases r with
    | ok x s' => exact i _ _ h
    | ex c f v s' => exact h
@[simp ↓] theorem wp_bnd {Q : β → S → Prop} {m : M α} {f : α → M β} : wp (bnd m f) Φ s Q E ↔ wp m Φ s (fun x s' => wp (f x) Φ s' Q E) E := by
  simp only [wp_def]; unfold wp0 bnd
  cases e : m Φ s with
  | none => exact Iff.rfl
  | some r => cases r <;> exact Iff.rfl
@[simp ↓] theorem wp_ret {x : α} : wp (ret x) Φ s Q E ↔ Q x s := wp_def.trans Iff.rfl
@[simp ↓] theorem wp_fail : wp (fail : M α) Φ s Q E ↔ False := wp_def.trans Iff.rfl
@[simp ↓] theorem wp_ofO {o : Option α} : wp (ofO o) Φ s Q E ↔ (oB (o) fun x => Q x s) := by rw [wp_def, oB_match]; cases o <;> exact Iff.rfl
@[simp ↓] theorem wp_look {g : S → Option α} : wp (look' g) Φ s Q E ↔ (oB (g s) fun x => Q x s) := by
  rw [wp_def, oB_match]; unfold wp0 look'
  cases g s <;> exact Iff.rfl
@[simp ↓] theorem wp_act {g : S → Option (α × S)} : wp (act g) Φ s Q E ↔ (oB (g s) fun x => Q x.1 x.2) := by
  simp only [wp_def, oB_match]; unfold wp0 act
  cases e : g s with
  | none => exact Iff.rfl
  | some x => exact Iff.rfl
@[simp ↓] theorem wp_chk {Q : β → S → Prop} {g : S → Option α} {k : M β} : wp (chk g k) Φ s Q E ↔ (oB (g s) fun _ => wp k Φ s Q E) := by
  simp only [wp_def, oB_match]; unfold wp0 chk
  cases e : g s with
  | none => exact Iff.rfl
  | some x => exact Iff.rfl
end
section
variable {α β : Type} {Φ : Phi} {s : S} {env : List SV} {hp : List EO} {E : Str → Str → U → List EO → Prop}
@[simp ↓] theorem wp_mSlot {i : Nat} {Q : Hd → S → Prop} : wp (mSlot i) Φ ⟨env, hp⟩ Q E ↔ (match env[i]? with
    | some (.val u) => Q (.u u) ⟨env, hp⟩
    | some (.ol _) => Q (.sl i) ⟨env, hp⟩
    | some (.od _ _) => Q (.sl i) ⟨env, hp⟩
    | _ => False) := by
  simp only [wp_def]; unfold wp0 mSlot
  cases e : env[i]? with
  | none => simp only [e]
  | some z => cases z <;> simp only [e]
@[simp ↓] theorem wp_hdl {m : M U} {Q : Hd → S → Prop} : wp (hdl m) Φ s Q E ↔ wp m Φ s (fun u s' => Q (.u u) s') E := by unfold hdl; simp only [wp_bnd, wp_ret]
@[simp ↓] theorem wp_eVar {i : Nat} {Q : U → S → Prop} : wp (eVar i) Φ ⟨env, hp⟩ Q E ↔ (match env[i]? with
    | some (.val u) => Q u ⟨env, hp⟩
    | some (.ol us) => Q (.lst us) ⟨env.set i (.val (.lst us)), hp⟩
    | some (.od t kvs) => Q (.dic t kvs) ⟨env.set i (.val (.dic t kvs)), hp⟩
    | _ => False) := by
  simp only [wp_def]; unfold wp0 eVar
  cases e : env[i]? with
  | none => simp only [e]
  | some z => cases z <;> simp only [e, setE]
variable {Q : U → S → Prop} {m m1 m2 m3 : M U} {mh : M Hd} {ms : M (List U)} {t t1 t2 : M Bool}
@[simp ↓] theorem wp_eC {u : U} : wp (eC u) Φ s Q E ↔ Q u s := wp_def.trans Iff.rfl
@[simp ↓] theorem wp_eBop {o : BOp} : wp (eBop o m1 m2) Φ s Q E ↔ wp m1 Φ s (fun u s1 => wp m2 Φ s1 (fun v s2 => oB (bop o u v) fun x => Q x s2) E) E := by unfold eBop; simp only [wp_bnd, wp_ofO]
@[simp ↓] theorem wp_eCop {o : COp} : wp (eCop o m1 m2) Φ s Q E ↔ wp m1 Φ s (fun u s1 => wp m2 Φ s1 (fun v s2 => oB (cop o u v) fun x => Q (.bl x) s2) E) E := by
  unfold eCop
  simp only [wp_bnd, wp_ofO, oB_map]
@[simp ↓] theorem wp_eMem {neg : Bool} : wp (eMem neg m1 mh) Φ s Q E ↔ wp m1 Φ s (fun u s1 => wp mh Φ s1 (fun h s2 => oB (memU s2 u h) fun x => Q (.bl (if neg = true then !x else x)) s2) E) E := by
  unfold eMem
  simp only [wp_bnd, wp_look, oB_map]
@[simp ↓] theorem wp_eGet : wp (eGet mh m) Φ s Q E ↔ wp mh Φ s (fun h s1 => wp m Φ s1 (fun i s2 => oB (getU s2 h i) fun x => Q x s2) E) E := by unfold eGet; simp only [wp_bnd, wp_look]
@[simp ↓] theorem wp_tV {Q : Bool → S → Prop} : wp (tV m) Φ s Q E ↔ wp m Φ s (fun u s' => match u with
    | .bl b => Q b s'
    | _ => False) E := by
  unfold tV; rw [wp_bnd]
  constructor <;> (intro h; refine wp_imp h fun x s' q => ?_; cases x <;> first | exact q | simpa using q)
@[simp ↓] theorem wp_tNot {Q : Bool → S → Prop} : wp (tNot' t) Φ s Q E ↔ wp t Φ s (fun b s' => Q (!b) s') E := by unfold tNot'; simp only [wp_bnd, wp_ret]
@[simp ↓] theorem wp_tAnd {Q : Bool → S → Prop} : wp (tAnd' t1 t2) Φ s Q E ↔ wp t1 Φ s (fun b s' => if b = true then wp t2 Φ s' Q E else Q false s') E := by
  unfold tAnd'; rw [wp_bnd]
  constructor <;> (intro h; refine wp_imp h fun x s' q => ?_; cases x <;> first | exact q | simpa using q)
@[simp ↓] theorem wp_tOr {Q : Bool → S → Prop} : wp (tOr' t1 t2) Φ s Q E ↔ wp t1 Φ s (fun b s' => if b = true then Q true s' else wp t2 Φ s' Q E) E := by
  unfold tOr'; rw [wp_bnd]
  constructor <;> (intro h; refine wp_imp h fun x s' q => ?_; cases x <;> first | exact q | simpa using q)
@[simp ↓] theorem wp_eAnd : wp (eAnd m1 m2) Φ s Q E ↔ wp m1 Φ s (fun u s' => match u with
    | .bl b => if b = true then wp m2 Φ s' Q E else Q (.bl false) s'
    | _ => False) E := by
  unfold eAnd; rw [wp_bnd]
  constructor <;> (intro h; refine wp_imp h fun x s' q => ?_; cases x <;> first | exact q | simpa using q | (rename_i b; cases b <;> first | exact q | simpa using q))
@[simp ↓] theorem wp_eOr : wp (eOr m1 m2) Φ s Q E ↔ wp m1 Φ s (fun u s' => match u with
    | .bl b => if b = true then Q (.bl true) s' else wp m2 Φ s' Q E
    | _ => False) E := by
  unfold eOr; rw [wp_bnd]
  constructor <;> (intro h; refine wp_imp h fun x s' q => ?_; cases x <;> first | exact q | simpa using q | (rename_i b; cases b <;> first | exact q | simpa using q))
@[simp ↓] theorem wp_eNot : wp (eNot m) Φ s Q E ↔ wp m Φ s (fun u s' => match u with
    | .bl b => Q (.bl (!b)) s'
    | _ => False) E := by
  unfold eNot; rw [wp_bnd]
  constructor <;> (intro h; refine wp_imp h fun x s' q => ?_; cases x <;> first | exact q | simpa using q)
@[simp ↓] theorem wp_eNeg : wp (eNeg m) Φ s Q E ↔ wp m Φ s (fun u s' => match u with
    | .int b => Q (.int (-b)) s'
    | _ => False) E := by
  unfold eNeg; rw [wp_bnd]
  constructor <;> (intro h; refine wp_imp h fun x s' q => ?_; cases x <;> first | exact q | simpa using q)
@[simp ↓] theorem wp_eIf : wp (eIf t m1 m2) Φ s Q E ↔ wp t Φ s (fun b s' => if b = true then wp m1 Φ s' Q E else wp m2 Φ s' Q E) E := by
  unfold eIf; rw [wp_bnd]
  constructor <;> (intro h; refine wp_imp h fun x s' q => ?_; cases x <;> first | exact q | simpa using q)
@[simp ↓] theorem wp_aNil {Q : List U → S → Prop} : wp aNil Φ s Q E ↔ Q [] s := wp_def.trans Iff.rfl
@[simp ↓] theorem wp_aCons {Q : List U → S → Prop} : wp (aCons m ms) Φ s Q E ↔ wp m Φ s (fun u s1 => wp ms Φ s1 (fun us s2 => Q (u :: us) s2) E) E := by unfold aCons; simp only [wp_bnd, wp_ret]
@[simp ↓] theorem wp_eTup : wp (eTup ms) Φ s Q E ↔ wp ms Φ s (fun us s' => us.length ≤ line ∧ Q (.tup us) s') E := by
  unfold eTup; simp only [wp_bnd, wp_ofO]
  constructor <;> (intro h; refine wp_imp h fun x s' q => ?_)
  · by_cases z : x.length ≤ line
    · rw [if_pos z] at q; exact ⟨z, by simpa using q⟩
    · rw [if_neg z] at q; exact (by simpa using q : False).elim
  · rw [if_pos q.1]; simpa using q.2
@[simp ↓] theorem wp_eCall {q : Str} {np : Nat} : wp (eCall q np ms) Φ s Q E ↔ wp ms Φ s (fun us s' => us.length = np ∧ wq Φ q us s'.hp (fun u hp' => Q u ⟨s'.env, hp'⟩) E) E := by
  unfold eCall; rw [wp_bnd]
  have key : ∀ x (s' : S), wp (callM q x) Φ s' Q E ↔ wq Φ q x s'.hp (fun u hp' => Q u ⟨s'.env, hp'⟩) E := fun x s' => by
    simp only [wp_def, wq_def]; unfold wp0 callM wq0
    cases Φ q x s'.hp with
    | none => exact Iff.rfl
    | some r => cases r <;> exact Iff.rfl
  constructor <;> (intro h; refine wp_imp h fun x s' z => ?_)
  · by_cases c : x.length = np
    · rw [if_pos c] at z; exact ⟨c, (key _ _).mp z⟩
    · rw [if_neg c] at z; exact (wp_fail.mp z).elim
  · rw [if_pos z.1]; exact (key _ _).mpr z.2
@[simp ↓] theorem wp_eLen : wp (eLen mh) Φ s Q E ↔ wp mh Φ s (fun h s' => oB (lenU s' h) fun x => Q x s') E := by unfold eLen; simp only [wp_bnd, wp_look]
@[simp ↓] theorem wp_eTupleOf : wp (eTupleOf mh) Φ s Q E ↔ wp mh Φ s (fun h s' => oB (tupleU s' h) fun x => Q x s') E := by unfold eTupleOf; simp only [wp_bnd, wp_look]
@[simp ↓] theorem wp_eListOf : wp (eListOf mh) Φ s Q E ↔ wp mh Φ s (fun h s' => oB (listU s' h) fun x => Q x s') E := by unfold eListOf; simp only [wp_bnd, wp_look]
@[simp ↓] theorem wp_eSorted : wp (eSorted mh) Φ s Q E ↔ wp mh Φ s (fun h s' => oB (sortedU s' h) fun x => Q x s') E := by unfold eSorted; simp only [wp_bnd, wp_look]
@[simp ↓] theorem wp_eInt1 : wp (eInt1 m) Φ s Q E ↔ wp m Φ s (fun u s' => oB (int1 u) fun x => Q x s') E := by unfold eInt1; simp only [wp_bnd, wp_ofO]
@[simp ↓] theorem wp_eMM2 {lt : Bool} : wp (eMM2 lt ms) Φ s Q E ↔ wp ms Φ s (fun us s' => oB (mm2 lt us) fun x => Q x s') E := by unfold eMM2; simp only [wp_bnd, wp_ofO]
@[simp ↓] theorem wp_eApp : wp (eApp mh m) Φ s Q E ↔ wp mh Φ s (fun h s1 => (lstH s1 h).isSome = true ∧ wp m Φ s1 (fun u s2 => oB (appS s2 h u) fun x => Q x.1 x.2) E) E := by
  unfold eApp; simp only [wp_bnd, wp_chk, wp_act]
  constructor <;> (intro h; refine wp_imp h fun x s' z => ?_)
  · cases e : lstH s' x with
    | none => rw [e] at z; simp at z
    | some _ => rw [e] at z; exact ⟨rfl, by simpa using z⟩
  · cases e : lstH s' x with
    | none => rw [e] at z; cases z.1
    | some _ => simpa using z.2
@[simp ↓] theorem wp_ePop : wp (ePop mh) Φ s Q E ↔ wp mh Φ s (fun h s1 => oB (popS s1 h) fun x => Q x.1 x.2) E := by unfold ePop; simp only [wp_bnd, wp_act]
@[simp ↓] theorem wp_tTru {Q : Bool → S → Prop} : wp (tTru mh) Φ s Q E ↔ wp mh Φ s (fun h s' => oB (truU s' h) fun x => Q x s') E := by unfold tTru; simp only [wp_bnd, wp_look]
@[simp ↓] theorem wp_eChain {o o' : COp} : wp (eChain o o' m1 m2 m3) Φ s Q E ↔ wp m1 Φ s (fun u s1 => wp m2 Φ s1 (fun v s2 => oB (cop o u v) fun b => if b = true then wp m3 Φ s2 (fun z s3 => oB (cop o' v z) fun x => Q (.bl x) s3) E else Q (.bl false) s2) E) E := by
  unfold eChain; simp only [wp_bnd, wp_ofO]
  constructor <;> (intro h; refine wp_imp h fun x s' z => wp_imp z fun y s2 z2 => ?_) <;>
    (cases e : cop o x y with
    | none => rw [e] at z2; simp at z2
    | some b => rw [e] at z2; cases b <;> simpa using z2)
end
end EL
set_option Elab.async false
set_option linter.all false
set_option maxRecDepth 100000
/-! EM2: statements, loops, calls. -/
namespace EL
open PySem (Str PyData)

section
variable {α β : Type} {Φ : Phi} {s : S} {env : List SV} {hp : List EO} {E : Str → Str → U → List EO → Prop} {Q : Fl → S → Prop} {m m1 m2 : M U} {mh : M Hd} {mo : M SV} {a b : M Fl} {t : M Bool} {ms : M (List U)} {i : Nat}
@[simp ↓] theorem wp_sSeq : wp (sSeq a b) Φ s Q E ↔ wp a Φ s (fun f s' => match f with
    | .nx => wp b Φ s' Q E
    | .rt u => Q (.rt u) s'
    | .bk => Q .bk s'
    | .ct => Q .ct s') E := by
  unfold sSeq; rw [wp_bnd]
  constructor <;> (intro h; refine wp_imp h fun x s' q => ?_; cases x <;> first | exact q | simpa using q)
@[simp ↓] theorem wp_sNext : wp sNext Φ s Q E ↔ Q .nx s := wp_def.trans Iff.rfl
@[simp ↓] theorem wp_sBreak : wp sBreak Φ s Q E ↔ Q .bk s := wp_def.trans Iff.rfl
@[simp ↓] theorem wp_sCont : wp sCont Φ s Q E ↔ Q .ct s := wp_def.trans Iff.rfl
@[simp ↓] theorem wp_sRetN : wp sRetN Φ s Q E ↔ Q (.rt .non) s := wp_def.trans Iff.rfl
@[simp ↓] theorem wp_sExpr : wp (sExpr m) Φ s Q E ↔ wp m Φ s (fun _ s' => Q .nx s') E := by unfold sExpr; simp only [wp_bnd, wp_ret]
@[simp ↓] theorem wp_sRet : wp (sRet m) Φ s Q E ↔ wp m Φ s (fun u s' => Q (.rt u) s') E := by unfold sRet; simp only [wp_bnd, wp_ret]
@[simp ↓] theorem wp_sIf : wp (sIf t a b) Φ s Q E ↔ wp t Φ s (fun c s' => if c = true then wp a Φ s' Q E else wp b Φ s' Q E) E := by
  unfold sIf; rw [wp_bnd]
  constructor <;> (intro h; refine wp_imp h fun x s' q => ?_; cases x <;> first | exact q | simpa using q)
theorem wp_store {v : SV} : wp (store i v) Φ s Q E ↔ i < s.env.length ∧ Q .nx ⟨s.env.set i v, s.hp⟩ := by
  simp only [wp_def]; unfold wp0 store setE
  by_cases h : i < s.env.length
  · simp [h]
  · simp [h]
@[simp ↓] theorem wp_sSet : wp (sSet i m) Φ s Q E ↔ wp m Φ s (fun u s' => i < s'.env.length ∧ Q .nx ⟨s'.env.set i (.val u), s'.hp⟩) E := by unfold sSet; simp only [wp_bnd, wp_store]
@[simp ↓] theorem wp_sOwn : wp (sOwn i mo) Φ s Q E ↔ wp mo Φ s (fun u s' => i < s'.env.length ∧ Q .nx ⟨s'.env.set i u, s'.hp⟩) E := by unfold sOwn; simp only [wp_bnd, wp_store]
@[simp ↓] theorem wp_oLst {Q : SV → S → Prop} : wp (oLst ms) Φ s Q E ↔ wp ms Φ s (fun us s' => us.length ≤ line ∧ Q (.ol us) s') E := by
  unfold oLst; simp only [wp_bnd, wp_ofO]
  constructor <;> (intro h; refine wp_imp h fun x s' q => ?_)
  · by_cases z : x.length ≤ line
    · rw [if_pos z] at q; exact ⟨z, by simpa using q⟩
    · rw [if_neg z] at q; exact (by simpa using q : False).elim
  · rw [if_pos q.1]; simpa using q.2
@[simp ↓] theorem wp_oDic {Q : SV → S → Prop} {t : Bool} : wp (oDic t) Φ s Q E ↔ Q (.od t []) s := wp_def.trans Iff.rfl
def frzU : SV → Option U
  | .ol us => some (.lst us)
  | .od t kvs => some (.dic t kvs)
  | _ => none
@[simp] theorem frzU_no : frzU .no = none := rfl
@[simp] theorem frzU_val {u : U} : frzU (.val u) = none := rfl
@[simp] theorem frzU_ol {us : List U} : frzU (.ol us) = some (.lst us) := rfl
@[simp] theorem frzU_od {t : Bool} {us : List (U × U)} : frzU (.od t us) = some (.dic t us) := rfl
@[simp ↓] theorem wp_eFz {Q : U → S → Prop} : wp (eFz mo) Φ s Q E ↔ wp mo Φ s (fun v s' => oB (frzU v) fun u => Q u s') E := by
  unfold eFz; rw [wp_bnd]
  constructor <;> (intro h; refine wp_imp h fun x s' q => ?_; cases x <;> first | exact q | simpa using q)
@[simp ↓] theorem wp_eCell {Q : U → S → Prop} : wp (eCell mo) Φ s Q E ↔ wp mo Φ s (fun v s' => oB (cellOf v) fun o => Q (.ref s'.hp.length) ⟨s'.env, s'.hp ++ [o]⟩) E := by
  unfold eCell; rw [wp_bnd]
  have key : ∀ (x : SV) (s' : S), wp (match cellOf x with
    | some eo => (fun _ s => some (.ok (.ref s.hp.length) ⟨s.env, s.hp ++ [eo]⟩) : M U)
    | none => fail) Φ s' Q E ↔ oB (cellOf x) fun o => Q (.ref s'.hp.length) ⟨s'.env, s'.hp ++ [o]⟩ := fun x s' => by
    cases cellOf x with
    | none => simp
    | some o => rw [oB_some]; exact wp_def.trans Iff.rfl
  constructor <;> (intro h; refine wp_imp h fun x s' q => ?_)
  · exact (key _ _).mp q
  · exact (key _ _).mpr q
@[simp ↓] theorem wp_sItem : wp (sItem mh m1 m) Φ s Q E ↔ wp m Φ s (fun v s1 => wp mh Φ s1 (fun h s2 => wp m1 Φ s2 (fun i s3 => oB (itemS s3 h i v) fun x => Q x.1 x.2) E) E) E := by unfold sItem; simp only [wp_bnd, wp_act]
@[simp ↓] theorem wp_sAsgT {f : U → M Unit} : wp (sAsgT m f) Φ s Q E ↔ wp m Φ s (fun u s' => wp (f u) Φ s' (fun _ s2 => Q .nx s2) E) E := by unfold sAsgT; simp only [wp_bnd, wp_ret]
@[simp ↓] theorem wp_tgName {Q : Unit → S → Prop} {u : U} : wp (tgName i u) Φ s Q E ↔ i < s.env.length ∧ Q () ⟨s.env.set i (.val u), s.hp⟩ := by
  simp only [wp_def]; unfold wp0 tgName setE
  by_cases h : i < s.env.length
  · simp [h]
  · simp [h]
@[simp ↓] theorem wp_tgTup {Q : Unit → S → Prop} {f : List U → M Unit} {us : List U} {n : Nat} : wp (tgTup n f (.tup us)) Φ s Q E ↔ us.length = n ∧ wp (f us) Φ s Q E := by
  unfold tgTup
  by_cases h : us.length = n
  · simp [h]
  · simp [h]
@[simp ↓] theorem wp_tgsNil {Q : Unit → S → Prop} : wp (tgsNil []) Φ s Q E ↔ Q () s := wp_def.trans Iff.rfl
@[simp ↓] theorem wp_tgsCons {Q : Unit → S → Prop} {f : U → M Unit} {g : List U → M Unit} {u : U} {us : List U} : wp (tgsCons f g (u :: us)) Φ s Q E ↔ wp (f u) Φ s (fun _ s' => wp (g us) Φ s' Q E) E := by unfold tgsCons; rw [wp_bnd]
/-! loops -/
@[simp ↓] theorem wp_iItems {Q : List U → S → Prop} : wp (iItems m) Φ s Q E ↔ wp m Φ s (fun u s' => oB (itemsU u) fun us => Q us s') E := by unfold iItems; simp only [wp_bnd, wp_ofO]
@[simp ↓] theorem wp_iRange {Q : List U → S → Prop} : wp (iRange ms) Φ s Q E ↔ wp ms Φ s (fun us s' => oB (rng1 us) fun us => Q us s') E := by unfold iRange; simp only [wp_bnd, wp_ofO]
@[simp ↓] theorem wp_iRange2 {Q : List U → S → Prop} : wp (iRange2 ms) Φ s Q E ↔ wp ms Φ s (fun us s' => oB (rng2 us) fun us => Q us s') E := by unfold iRange2; simp only [wp_bnd, wp_ofO]
@[simp ↓] theorem wp_seqT {mt : M Unit} : wp (seqT mt b) Φ s Q E ↔ wp mt Φ s (fun _ s' => wp b Φ s' Q E) E := by unfold seqT; rw [wp_bnd]
@[simp ↓] theorem wp_sFor {mi : M (List U)} {f : U → M Unit} : wp (sFor mi f b) Φ s Q E ↔ wp mi Φ s (fun us s' => wp (forL (fun u => seqT (f u) b) us) Φ s' Q E) E := by unfold sFor; rw [wp_bnd]
@[simp ↓] theorem wp_forL_nil {body : U → M Fl} : wp (forL body []) Φ s Q E ↔ Q .nx s := wp_def.trans Iff.rfl
@[simp ↓] theorem wp_forL_cons {body : U → M Fl} {u : U} {us : List U} : wp (forL body (u :: us)) Φ s Q E ↔ wp (body u) Φ s (fun f s' => match f with
    | .nx => wp (forL body us) Φ s' Q E
    | .ct => wp (forL body us) Φ s' Q E
    | .bk => Q .nx s'
    | .rt v => Q (.rt v) s') E := by
  rw [forL, wp_bnd]
  constructor <;> (intro h; refine wp_imp h fun x s' q => ?_; cases x <;> first | exact q | simpa using q)
theorem wp_for {body : U → M Fl} : ∀ {us : List U} {s : S} (P : List U → S → Prop), P us s →
    (∀ u us s, P (u :: us) s → wp (body u) Φ s (fun f s' => match f with
      | .nx => P us s'
      | .ct => P us s'
      | .bk => Q .nx s'
      | .rt v => Q (.rt v) s') E) → (∀ s, P [] s → Q .nx s) → wp (forL body us) Φ s Q E
  | [], s, P, h0, step, fin => wp_forL_nil.mpr (fin s h0)
  | u :: us, s, P, h0, step, fin => by
    rw [wp_forL_cons]
    refine wp_imp (step u us s h0) fun x s' q => ?_
    cases x with
    | nx => exact wp_for P q step fin
    | ct => exact wp_for P q step fin
    | bk => exact q
    | rt v => exact q
end
/-! ### comprehensions -/
abbrev noE : Str → Str → U → List EO → Prop := fun _ _ _ _ => False
theorem wp_of {α : Type} {m : M α} {Φ : Phi} {s : S} {Q : α → S → Prop} (h : wp m Φ s Q noE) : ∃ x s', m Φ s = some (.ok x s') ∧ Q x s' := by
  rw [wp_def] at h; unfold wp0 at h
  cases e : m Φ s with
  | none => rw [e] at h; exact h.elim
  | some r => rw [e] at h; cases r with
    | ok x s' => exact ⟨x, s', rfl, h⟩
    | ex c f v s' => exact h.elim
section
variable {Φ : Phi} {s : S} {E : Str → Str → U → List EO → Prop} {f f1 : U → M Unit} {t t1 : M Bool} {m : M U} {vs vs1 : List Nat} {mi mi1 : M (List U)}
theorem wp_turn {Q : List U → S → Prop} {u : U} {yes no : M (List U)} : wp (turnM f t vs u yes no) Φ s Q E ↔ wp (f u) Φ ⟨wipeE s.env vs, s.hp⟩ (fun _ s2 => wp t Φ s2 (fun b s3 => if b = true then wp yes Φ s3 Q E else wp no Φ s3 Q E) E) E := by
  unfold turnM
  rw [wp_bnd]
  have key : ∀ (Q : Unit → S → Prop), wp (wipeM vs) Φ s Q E ↔ Q () ⟨wipeE s.env vs, s.hp⟩ := fun Q => wp_def.trans Iff.rfl
  rw [key, wp_bnd]
  constructor <;> (intro h; refine wp_imp h fun x s' q => ?_)
  · rw [wp_bnd] at q
    refine wp_imp q fun b s2 q => ?_
    cases b <;> exact q
  · rw [wp_bnd]
    refine wp_imp q fun b s2 q => ?_
    cases b <;> exact q
theorem wp_push {Q : List U → S → Prop} {acc : List U} : wp (pushM m acc) Φ s Q E ↔ wp m Φ s (fun v s' => acc.length < line ∧ Q (acc ++ [v]) s') E := by
  unfold pushM
  rw [wp_bnd]
  constructor <;> (intro h; refine wp_imp h fun x s' q => ?_)
  · by_cases z : acc.length < line
    · rw [if_pos z] at q; exact ⟨z, by simpa using q⟩
    · rw [if_neg z] at q; exact (by simpa using q : False).elim
  · rw [if_pos q.1]; simpa using q.2
/-- one clause, that leaves the state as it is: g says what each item gives -/
theorem lc_pure {e0 : List SV} {hp : List EO} (g : U → Option U) : ∀ (us acc : List U) (env : List SV), wipeE env vs = e0 → acc.length + us.length ≤ line →
    (∀ u ∈ us, wp (f u) Φ ⟨e0, hp⟩ (fun _ s2 => wp t Φ s2 (fun b s3 => if b = true then wp m Φ s3 (fun v s4 => g u = some v ∧ wipeE s4.env vs = e0 ∧ s4.hp = hp) noE else g u = none ∧ wipeE s3.env vs = e0 ∧ s3.hp = hp) noE) noE) →
    ∃ env', wipeE env' vs = e0 ∧ lcL f t m vs us acc Φ ⟨env, hp⟩ = some (.ok (acc ++ us.filterMap g) ⟨env', hp⟩)
  | [], acc, env, he, hl, h => ⟨env, he, by simp [lcL, ret]⟩
  | u :: us, acc, env, he, hl, h => by
    have h1 : wp (turnM f t vs u (pushM m acc) (ret acc)) Φ ⟨env, hp⟩ (fun acc' s' => acc' = acc ++ (g u).toList ∧ wipeE s'.env vs = e0 ∧ s'.hp = hp) noE := by
      rw [wp_turn]
      show wp (f u) Φ ⟨wipeE env vs, hp⟩ _ noE
      rw [he]
      refine wp_imp (h u (List.mem_cons_self ..)) fun _ s2 q => wp_imp q fun b s3 q => ?_
      cases b with
      | true =>
        simp only [if_true] at q ⊢
        rw [wp_push]
        refine wp_imp q fun v s4 q => ⟨by simp only [List.length_cons] at hl; omega, by rw [q.1]; rfl, q.2⟩
      | false =>
        simp only [Bool.false_eq_true, if_false] at q ⊢
        exact ⟨by rw [q.1]; simp, q.2⟩
    obtain ⟨acc', s', e1, rfl, e2, e3⟩ := wp_of h1
    obtain ⟨env1, hp1⟩ := s'
    have e3 : hp1 = hp := e3
    subst e3
    have hlen : (acc ++ (g u).toList).length + us.length ≤ line := by
      have : (g u).toList.length ≤ 1 := by cases g u <;> simp
      simp only [List.length_cons, List.length_append] at hl ⊢
      omega
    obtain ⟨env2, e4, e5⟩ := lc_pure g us _ env1 e2 hlen fun v hv => h v (List.mem_cons_of_mem _ hv)
    refine ⟨env2, e4, ?_⟩
    show bnd (turnM f t vs u (pushM m acc) (ret acc)) (fun acc' => lcL f t m vs us acc') Φ ⟨env, hp1⟩ = _
    unfold bnd
    rw [e1]
    show lcL f t m vs us (acc ++ (g u).toList) Φ ⟨env1, hp1⟩ = _
    rw [e5]
    cases e : g u <;> simp [e]
theorem wp_lc {Q : SV → S → Prop} (g : U → Option U) (h : wp mi Φ s (fun us s1 => us.length ≤ line ∧ (∀ u ∈ us, wp (f u) Φ ⟨wipeE s1.env vs, s1.hp⟩ (fun _ s2 => wp t Φ s2 (fun b s3 => if b = true then wp m Φ s3 (fun v s4 => g u = some v ∧ wipeE s4.env vs = wipeE s1.env vs ∧ s4.hp = s1.hp) noE else g u = none ∧ wipeE s3.env vs = wipeE s1.env vs ∧ s3.hp = s1.hp) noE) noE) ∧
    Q (.ol (us.filterMap g)) ⟨backE s1.env (wipeE s1.env vs) vs, s1.hp⟩) E) : wp (oLC mi f t m vs) Φ s Q E := by
  unfold oLC
  rw [wp_bnd]
  refine wp_imp h fun us s1 ⟨h1, h2, h3⟩ => ?_
  obtain ⟨env', e1, e2⟩ := lc_pure (Φ := Φ) (f := f) (t := t) (m := m) g us [] s1.env rfl (by simpa using h1) h2
  rw [wp_def]; unfold wp0
  simp only []
  have e2 : lcL f t m vs us [] Φ s1 = _ := e2
  rw [e2]
  show Q (.ol ([] ++ us.filterMap g)) ⟨backE s1.env (wipeE env' vs) vs, s1.hp⟩
  rw [e1, List.nil_append]
  exact h3
/-- two clauses -/
theorem lc2_pure {e0 : List SV} {hp : List EO} {B : Nat} (g : U → List U) : ∀ (us acc : List U) (env : List SV), wipeE env vs = e0 → acc.length + us.length * B ≤ line → (∀ u ∈ us, (g u).length ≤ B) →
    (∀ u ∈ us, ∀ acc, acc.length + B ≤ line → wp (f u) Φ ⟨e0, hp⟩ (fun _ s2 => wp t Φ s2 (fun b s3 => if b = true then wp mi1 Φ s3 (fun us1 s4 => wp (lcL f1 t1 m vs1 us1 acc) Φ s4 (fun acc' s5 => acc' = acc ++ g u ∧ wipeE s5.env vs = e0 ∧ s5.hp = hp) noE) noE else g u = [] ∧ wipeE s3.env vs = e0 ∧ s3.hp = hp) noE) noE) →
    ∃ env', wipeE env' vs = e0 ∧ lc2L f t vs mi1 f1 t1 m vs1 us acc Φ ⟨env, hp⟩ = some (.ok (acc ++ us.flatMap g) ⟨env', hp⟩)
  | [], acc, env, he, hl, hB, h => ⟨env, he, by simp [lc2L, ret]⟩
  | u :: us, acc, env, he, hl, hB, h => by
    have hl2 : acc.length + B + us.length * B ≤ line := by
      simp only [List.length_cons, Nat.add_mul, Nat.one_mul] at hl
      omega
    have h1 : wp (turnM f t vs u (bnd mi1 fun us1 => lcL f1 t1 m vs1 us1 acc) (ret acc)) Φ ⟨env, hp⟩ (fun acc' s' => acc' = acc ++ g u ∧ wipeE s'.env vs = e0 ∧ s'.hp = hp) noE := by
      rw [wp_turn]
      show wp (f u) Φ ⟨wipeE env vs, hp⟩ _ noE
      rw [he]
      refine wp_imp (h u (List.mem_cons_self ..) acc (by omega)) fun _ s2 q => wp_imp q fun b s3 q => ?_
      cases b with
      | true =>
        simp only [if_true] at q ⊢
        rw [wp_bnd]
        exact q
      | false =>
        simp only [Bool.false_eq_true, if_false] at q ⊢
        exact ⟨by rw [q.1]; simp, q.2⟩
    obtain ⟨acc', s', e1, rfl, e2, e3⟩ := wp_of h1
    obtain ⟨env1, hp1⟩ := s'
    have e3 : hp1 = hp := e3
    subst e3
    have hlen : (acc ++ g u).length + us.length * B ≤ line := by
      have := hB u (List.mem_cons_self ..)
      simp only [List.length_append]
      omega
    obtain ⟨env2, e4, e5⟩ := lc2_pure g us _ env1 e2 hlen (fun v hv => hB v (List.mem_cons_of_mem _ hv)) fun v hv => h v (List.mem_cons_of_mem _ hv)
    refine ⟨env2, e4, ?_⟩
    show bnd (turnM f t vs u (bnd mi1 fun us1 => lcL f1 t1 m vs1 us1 acc) (ret acc)) (fun acc' => lc2L f t vs mi1 f1 t1 m vs1 us acc') Φ ⟨env, hp1⟩ = _
    unfold bnd at e1 ⊢
    rw [e1]
    show lc2L f t vs mi1 f1 t1 m vs1 us (acc ++ g u) Φ ⟨env1, hp1⟩ = _
    rw [e5]
    simp
/-- two clauses; h, I, g: which first items count, what is walked inside, what each pair gives -/
theorem wp_lc2 {Q : SV → S → Prop} (hv : ∀ j, j ∈ vs1 → j ∈ vs) (B : Nat) (h : U → Bool) (I : U → List U) (g : U → U → Option U) (hq : wp mi Φ s (fun us s1 => us.length * B ≤ line ∧ (∀ u ∈ us, (I u).length ≤ B) ∧
    (∀ u ∈ us, wp (f u) Φ ⟨wipeE s1.env vs, s1.hp⟩ (fun _ s2 => wp t Φ s2 (fun b s3 => h u = b ∧ s3.hp = s1.hp ∧ wipeE s3.env vs = wipeE s1.env vs ∧ (b = true → wp mi1 Φ s3 (fun us1 s4 => us1 = I u ∧ s4.hp = s1.hp ∧ wipeE s4.env vs = wipeE s1.env vs ∧
      ∀ u1 ∈ us1, wp (f1 u1) Φ ⟨wipeE s4.env vs1, s1.hp⟩ (fun _ s5 => wp t1 Φ s5 (fun b s6 => if b = true then wp m Φ s6 (fun v s7 => g u u1 = some v ∧ wipeE s7.env vs1 = wipeE s4.env vs1 ∧ s7.hp = s1.hp) noE else g u u1 = none ∧ wipeE s6.env vs1 = wipeE s4.env vs1 ∧ s6.hp = s1.hp) noE) noE) noE)) noE) noE) ∧
    Q (.ol (us.flatMap fun u => if h u = true then (I u).filterMap (g u) else [])) ⟨backE s1.env (wipeE s1.env vs) vs, s1.hp⟩) E) : wp (oLC2 mi f t mi1 f1 t1 m vs vs1) Φ s Q E := by
  unfold oLC2
  rw [wp_bnd]
  refine wp_imp hq fun us s1 ⟨h1, hB, h2, h3⟩ => ?_
  obtain ⟨env', e1, e2⟩ := lc2_pure (Φ := Φ) (f := f) (t := t) (m := m) (f1 := f1) (t1 := t1) (mi1 := mi1) (vs1 := vs1) (B := B) (fun u => if h u = true then (I u).filterMap (g u) else []) us [] s1.env rfl (by simpa using h1) (fun u hu => by
    by_cases z : h u = true
    · rw [if_pos z]; exact Nat.le_trans (List.length_filterMap_le _ _) (hB u hu)
    · rw [if_neg z]; simp) (fun u hu acc hacc => wp_imp (h2 u hu) fun _ s2 q => wp_imp q fun b s3 ⟨q1, q2, q3, q4⟩ => by
      cases b with
      | false => simp only [Bool.false_eq_true, if_false]; exact ⟨by rw [q1]; simp, q3, q2⟩
      | true =>
        simp only [if_true]
        refine wp_imp (q4 rfl) fun us1 s4 ⟨p1, p2, p3, p4⟩ => ?_
        obtain ⟨env4, hp4⟩ := s4
        have p2 : hp4 = s1.hp := p2
        subst p2
        have hl1 : us1.length ≤ B := by rw [p1]; exact hB u hu
        obtain ⟨env5, e5, e6⟩ := lc_pure (Φ := Φ) (f := f1) (t := t1) (m := m) (vs := vs1) (g u) us1 acc env4 rfl (by omega) p4
        rw [wp_def]; unfold wp0
        rw [e6]
        refine ⟨?_, by rw [← wipeE_wipe (e := env5) hv, e5, wipeE_wipe hv]; exact p3, rfl⟩
        rw [q1, p1]; simp)
  rw [wp_def]; unfold wp0
  simp only []
  have e2 : lc2L f t vs mi1 f1 t1 m vs1 us [] Φ s1 = _ := e2
  rw [e2]
  show Q (.ol ([] ++ us.flatMap _)) ⟨backE s1.env (wipeE env' vs) vs, s1.hp⟩
  rw [e1, List.nil_append]
  exact h3
end
/-! ### calls, by a table of E programs -/
abbrev Tab := Str → Option (Nat × Nat × M Fl)
def mkEnv (n : Nat) (us : List U) : List SV := us.map SV.val ++ List.replicate (n - us.length) .no
def runM (m : M Fl) (n : Nat) (Φ : Phi) (us : List U) (hp : List EO) : Option FR := match m Φ ⟨mkEnv n us, hp⟩ with
  | none => none
  | some (.ok (.rt u) s) => some (.ok u s.hp)
  | some (.ok .nx s) => some (.ok .non s.hp)
  | some (.ok _ _) => none
  | some (.ex c f v s) => some (.ex c f v s.hp)
def phiT (tt : Tab) : Nat → Phi
  | 0 => fun _ _ _ => none
  | n + 1 => fun q us hp => match tt q with
    | some (np, nn, m) => if us.length = np then runM m nn (phiT tt n) us hp else none
    | none => none
def tabOf (tb : List DE) : Tab := fun q => (findD tb q).map fun e => (e.ps.length, e.N.length, e.m)
theorem phi_eq (tb : List DE) : ∀ n, phi tb n = phiT (tabOf tb) n
  | 0 => rfl
  | n + 1 => by
    funext q us hp
    show (match findD tb q with
      | some e => if us.length = e.ps.length then runD e (phi tb n) us hp else none
      | none => none) = (match (findD tb q).map fun e => (e.ps.length, e.N.length, e.m) with
      | some (np, nn, m) => if us.length = np then runM m nn (phiT (tabOf tb) n) us hp else none
      | none => none)
    rw [phi_eq tb n]
    cases findD tb q <;> rfl
theorem wq_call {tt : Tab} {q : Str} {np nn n : Nat} {m : M Fl} {us : List U} {hp : List EO} {Q : U → List EO → Prop} {E : Str → Str → U → List EO → Prop} (h : tt q = some (np, nn, m)) (hl : us.length = np) : wq (phiT tt (n + 1)) q us hp Q E ↔ wp m (phiT tt n) ⟨mkEnv nn us, hp⟩ (fun f s => match f with
    | .rt u => Q u s.hp
    | .nx => Q .non s.hp
    | _ => False) E := by
  have e : phiT tt (n + 1) q us hp = runM m nn (phiT tt n) us hp := by
    show (match tt q with
      | some (np, nn, m) => if us.length = np then runM m nn (phiT tt n) us hp else none
      | none => none) = _
    rw [h]
    exact if_pos hl
  rw [wq_def]; unfold wq0
  rw [e]
  simp only [wp_def]; unfold wp0 runM
  cases m (phiT tt n) ⟨mkEnv nn us, hp⟩ with
  | none => exact Iff.rfl
  | some r => cases r with
    | ok f s => cases f <;> exact Iff.rfl
    | ex c f v s => exact Iff.rfl
theorem eq_of_wq {Φ : Phi} {q : Str} {us : List U} {hp hp' : List EO} {u : U} (h : wq Φ q us hp (fun x h => x = u ∧ h = hp') noE) : Φ q us hp = some (.ok u hp') := by
  rw [wq_def] at h; unfold wq0 at h
  cases e : Φ q us hp with
  | none => rw [e] at h; exact h.elim
  | some r => rw [e] at h; cases r with
    | ok x s' => obtain ⟨rfl, rfl⟩ := h; rfl
    | ex c f v s' => exact h.elim
theorem wq_of_eq {Φ : Phi} {q : Str} {us : List U} {hp hp' : List EO} {u : U} {Q : U → List EO → Prop} {E : Str → Str → U → List EO → Prop} (h : Φ q us hp = some (.ok u hp')) : wq Φ q us hp Q E ↔ Q u hp' := by
  rw [wq_def]; unfold wq0; rw [h]
end EL
set_option Elab.async false
set_option linter.all false
/-! PM: E programs of defs that several laws have; printed by shared.py. -/
namespace EL.PM
open PySem EL
def m_law_draw : M Fl :=
 (sSeq (sIf (tV (eCop .lt (eGet (mSlot 0) (eC (.int 0))) (eVar 1)))
 (sSeq (sItem (mSlot 0) (eC (.int 1)) (eBop .mod (eInt1 (eBop .add (eBop .add (eBop .mul (eGet (mSlot 0) (eC (.int 1))) (eC (.int 48271))) (eC (.int 11))) (eGet (mSlot 0) (eC (.int 2))))) (eC (.int 2147483647))))
 (sItem (mSlot 0) (eC (.int 0)) (eBop .add (eGet (mSlot 0) (eC (.int 0))) (eBop .mul (eGet (mSlot 0) (eC (.int 1))) (eC (.int 1000003))))))
 sNext)
 (sSeq (sSet 2 (eBop .mod (eInt1 (eGet (mSlot 0) (eC (.int 0)))) (eVar 1)))
 (sSeq (sItem (mSlot 0) (eC (.int 0)) (eBop .fdiv (eGet (mSlot 0) (eC (.int 0))) (eVar 1)))
 (sRet (eVar 2)))))
def t_law_draw : Nat × Nat × M Fl := (2, 3, m_law_draw)
def m_law_source : M Fl :=
 (sSeq (sSet 2 (eC (.int 0)))
 (sSeq (sIf (tV (eCop .lt (eVar 1) (eLen (mSlot 0))))
 (sSet 2 (eGet (mSlot 0) (eVar 1)))
 sNext)
 (sSeq (sIf (tV (eCop .lt (eVar 2) (eC (.int 0))))
 (sSet 2 (eBop .add (eBop .mul (eNeg (eC (.int 2))) (eVar 2)) (eC (.int 1))))
 sNext)
 (sSeq (sSet 3 (eBop .mul (eC (.int 17)) (eVar 1)))
 (sSeq (sFor (iRange (aCons (eLen (mSlot 0)) aNil)) (tgName 4)
 (sSet 3 (eBop .mod (eInt1 (eBop .add (eBop .mul (eVar 3) (eC (.int 31))) (eGet (mSlot 0) (eVar 4)))) (eC (.int 1000003)))))
 (sRet (eCell (oLst (aCons (eVar 2) (aCons (eBop .add (eBop .mod (eInt1 (eVar 2)) (eC (.int 1000003))) (eVar 3)) (aCons (eVar 1) aNil)))))))))))
def t_law_source : Nat × Nat × M Fl := (2, 5, m_law_source)
def m_law_choice : M Fl :=
 (sRet (eGet (mSlot 1) (eCall "_law_draw" 2 (aCons (eVar 0) (aCons (eLen (mSlot 1)) aNil)))))
def t_law_choice : Nat × Nat × M Fl := (2, 2, m_law_choice)
def m_law_between : M Fl :=
 (sRet (eCop .eq (eLen (hdl (eFz (oLC (iItems (eVar 0)) (tgName 2) (tOr' (tV (eCop .lt (eVar 2) (eC (.int 0)))) (tV (eCop .gt (eVar 2) (eVar 1)))) (eVar 2) [2])))) (eC (.int 0))))
def t_law_between : Nat × Nat × M Fl := (2, 3, m_law_between)
def m_law_row : M Fl :=
 (sSeq (sOwn 4 (oLst aNil))
 (sSeq (sFor (iRange (aCons (eCall "_law_draw" 2 (aCons (eVar 0) (aCons (eBop .add (eVar 3) (eC (.int 1))) aNil))) aNil)) (tgName 5)
 (sSeq (sSet 6 (eCall "_law_choice" 2 (aCons (eVar 0) (aCons (eFz (oLst (aCons (eC (.int 0)) (aCons (eC (.int 1)) (aCons (eC (.int 1)) (aCons (eC (.int 2)) (aCons (eC (.int 2)) aNil))))))) aNil))))
 (sSeq (sSet 7 (eTup (aCons (eCall "_law_draw" 2 (aCons (eVar 0) (aCons (eVar 1) aNil))) (aCons (eTupleOf (hdl (eFz (oLC (iRange (aCons (eVar 6) aNil)) (tgName 8) (ret true) (eCall "_law_draw" 2 (aCons (eVar 0) (aCons (eVar 2) aNil))) [8])))) aNil))))
 (sIf (tV (eMem true (eVar 7) (mSlot 4)))
 (sExpr (eApp (mSlot 4) (eVar 7)))
 sNext))))
 (sRet (eTupleOf (mSlot 4)))))
def t_law_row : Nat × Nat × M Fl := (4, 9, m_law_row)
def m_bit : M Fl :=
 (sRet (eBop .shl (eC (.int 1)) (eBop .add (eBop .mul (eC (.int 3)) (eVar 0)) (eVar 1))))
def t_bit : Nat × Nat × M Fl := (2, 2, m_bit)
def m_pairs_of : M Fl :=
 (sRet (eTupleOf (hdl (eFz (oLC2 (iRange (aCons (eC (.int 3)) aNil)) (tgName 1) (ret true) (iRange (aCons (eC (.int 3)) aNil)) (tgName 2) (tTru (hdl (eBop .band (eVar 0) (eCall "bit" 2 (aCons (eVar 1) (aCons (eVar 2) aNil)))))) (eTup (aCons (eVar 1) (aCons (eVar 2) aNil))) [1, 2] [2])))))
def t_pairs_of : Nat × Nat × M Fl := (1, 3, m_pairs_of)
def m_mask_of : M Fl :=
 (sSeq (sSet 1 (eC (.int 0)))
 (sSeq (sFor (iItems (eVar 0)) (tgTup 2 (tgsCons (tgName 2) (tgsCons (tgName 3) tgsNil)))
 (sSet 1 (eBop .bor (eVar 1) (eCall "bit" 2 (aCons (eVar 2) (aCons (eVar 3) aNil))))))
 (sRet (eVar 1))))
def t_mask_of : Nat × Nat × M Fl := (1, 4, m_mask_of)
def m_low : M Fl :=
 (sSeq (sSet 2 (eC (.int 0)))
 (sSeq (sFor (iItems (eCall "pairs_of" 1 (aCons (eVar 0) aNil))) (tgTup 2 (tgsCons (tgName 3) (tgsCons (tgName 4) tgsNil)))
 (sSet 2 (eBop .bor (eVar 2) (eCall "bit" 2 (aCons (eVar 3) (aCons (eMM2 true (aCons (eVar 4) (aCons (eVar 1) aNil))) aNil))))))
 (sRet (eVar 2))))
def t_low : Nat × Nat × M Fl := (2, 5, m_low)
def m_law_low : M Fl :=
 (sSeq (sOwn 2 (oLst aNil))
 (sSeq (sFor (iItems (eVar 0)) (tgTup 2 (tgsCons (tgName 3) (tgsCons (tgName 4) tgsNil)))
 (sSeq (sSet 5 (eTup (aCons (eVar 3) (aCons (eMM2 true (aCons (eVar 4) (aCons (eVar 1) aNil))) aNil))))
 (sIf (tV (eMem true (eVar 5) (mSlot 2)))
 (sExpr (eApp (mSlot 2) (eVar 5)))
 sNext)))
 (sRet (eTupleOf (hdl (eSorted (mSlot 2)))))))
def t_law_low : Nat × Nat × M Fl := (2, 6, m_law_low)
def m_within : M Fl :=
 (sRet (eCop .eq (eBop .bor (eVar 0) (eVar 1)) (eVar 1)))
def t_within : Nat × Nat × M Fl := (2, 2, m_within)
def m_joined : M Fl :=
 (sRet (eCall "least" 1 (aCons (eFz (oLC2 (iItems (eVar 0)) (tgName 2) (ret true) (iItems (eVar 1)) (tgName 3) (ret true) (eBop .bor (eVar 2) (eVar 3)) [2, 3] [3])) aNil)))
def t_joined : Nat × Nat × M Fl := (2, 4, m_joined)
def m_lowered_family : M Fl :=
 (sRet (eCall "least" 1 (aCons (eFz (oLC (iItems (eVar 0)) (tgName 2) (ret true) (eCall "low" 2 (aCons (eVar 2) (aCons (eVar 1) aNil))) [2])) aNil)))
def t_lowered_family : Nat × Nat × M Fl := (2, 3, m_lowered_family)
def m_group_of : M Fl :=
 (sSeq (sOwn 2 (oLst (aCons (eVar 1) aNil)))
 (sSeq (sFor (iItems (eCall "used_by" 2 (aCons (eVar 0) (aCons (eVar 1) aNil)))) (tgName 3)
 (sIf (tAnd' (tV (eCop .ne (eVar 3) (eVar 1))) (tV (eMem false (eVar 1) (hdl (eCall "used_by" 2 (aCons (eVar 0) (aCons (eVar 3) aNil)))))))
 (sExpr (eApp (mSlot 2) (eVar 3)))
 sNext))
 (sRet (eSorted (mSlot 2)))))
def t_group_of : Nat × Nat × M Fl := (2, 4, m_group_of)
def m_reckon : M Fl :=
 (sSeq (sSet 2 (eFz (oLst aNil)))
 (sSeq (sFor (iItems (eCall "in_order" 1 (aCons (eVar 0) aNil))) (tgName 3)
 (sIf (tV (eMem true (eTup (aCons (eC (.int 0)) (aCons (eVar 3) aNil))) (hdl (eGet (mSlot 1) (eC (.int 0))))))
 (sSeq (sSet 4 (eCall "group_of" 2 (aCons (eVar 0) (aCons (eVar 3) aNil))))
 (sSeq (sSet 1 (eCall "reckon_group" 3 (aCons (eVar 0) (aCons (eVar 4) (aCons (eVar 1) aNil)))))
 (sSet 2 (eBop .add (eVar 2) (eVar 4)))))
 sNext))
 (sRet (eTup (aCons (eVar 1) (aCons (eVar 2) aNil))))))
def t_reckon : Nat × Nat × M Fl := (2, 5, m_reckon)
def m_told_family : M Fl :=
 (sRet (eTupleOf (hdl (eSorted (hdl (eFz (oLC (iItems (eVar 0)) (tgName 1) (ret true) (eCall "pairs_of" 1 (aCons (eVar 1) aNil)) [1])))))))
def t_told_family : Nat × Nat × M Fl := (1, 2, m_told_family)
def m_law_claims : M Fl :=
 (sSeq (sSet 1 (eFz (oLst (aCons (eTup aNil) aNil))))
 (sSeq (sFor (iItems (eCall "_law_pairs" 1 (aCons (eVar 0) aNil))) (tgName 2)
 (sSet 1 (eBop .add (eVar 1) (eFz (oLC (iItems (eVar 1)) (tgName 3) (ret true) (eBop .add (eVar 3) (eTup (aCons (eVar 2) aNil))) [3])))))
 (sRet (eVar 1))))
def t_law_claims : Nat × Nat × M Fl := (1, 4, m_law_claims)
def m_law_within : M Fl :=
 (sRet (eCop .eq (eLen (hdl (eFz (oLC (iItems (eVar 0)) (tgName 2) (tV (eMem true (eVar 2) (mSlot 1))) (eVar 2) [2])))) (eC (.int 0))))
def t_law_within : Nat × Nat × M Fl := (2, 3, m_law_within)
def m_law_holds : M Fl :=
 (sRet (eCop .gt (eLen (hdl (eFz (oLC (iItems (eVar 0)) (tgName 2) (tTru (hdl (eCall "_law_within" 2 (aCons (eVar 2) (aCons (eVar 1) aNil))))) (eVar 2) [2])))) (eC (.int 0))))
def t_law_holds : Nat × Nat × M Fl := (2, 3, m_law_holds)
def m_law_tried : M Fl :=
 (sSeq (sSet 2 (eCall "_law_claims" 1 (aCons (eVar 1) aNil)))
 (sSeq (sIf (tV (eCop .le (eLen (mSlot 2)) (eC (.int 64))))
 (sRet (eVar 2))
 sNext)
 (sRet (eFz (oLC (iRange (aCons (eC (.int 40)) aNil)) (tgName 3) (ret true) (eCall "_law_choice" 2 (aCons (eVar 0) (aCons (eVar 2) aNil))) [3])))))
def t_law_tried : Nat × Nat × M Fl := (2, 4, m_law_tried)
def m_law_rest : M Fl :=
 (sRet (eTupleOf (hdl (eFz (oLC (iItems (eCall "_law_pairs" 1 (aCons (eVar 0) aNil))) (tgName 2) (tV (eMem true (eVar 2) (mSlot 1))) (eVar 2) [2])))))
def t_law_rest : Nat × Nat × M Fl := (2, 3, m_law_rest)
def m_whole_claim : M Fl :=
 (sSeq (sSet 2 (eC (.int 0)))
 (sSeq (sFor (iItems (eVar 1)) (tgName 3)
 (sFor (iItems (eCall "ranks_there" 1 (aCons (eVar 0) aNil))) (tgName 4)
 (sSet 2 (eBop .bor (eVar 2) (eCall "bit" 2 (aCons (eVar 3) (aCons (eVar 4) aNil)))))))
 (sRet (eVar 2))))
def t_whole_claim : Nat × Nat × M Fl := (2, 5, m_whole_claim)
def m_machine : M Fl :=
 (sRet (eCall "machine_of" 2 (aCons (eVar 0) (aCons (eCall "masks" 2 (aCons (eVar 0) (aCons (eC (.int 0)) aNil))) aNil))))
def t_machine : Nat × Nat × M Fl := (1, 1, m_machine)
def m_winner_by : M Fl :=
 (sRet (eIf (tV (eMem false (eVar 1) (hdl (eGet (hdl (eGet (mSlot 0) (eCall "row_of" 2 (aCons (eVar 0) (aCons (eVar 2) aNil))))) (eC (.int 0)))))) (eC (.int 0)) (eC (.int 1))))
def t_winner_by : Nat × Nat × M Fl := (3, 3, m_winner_by)
def m_winner : M Fl :=
 (sRet (eCall "winner_by" 3 (aCons (eCall "machine" 1 (aCons (eVar 0) aNil)) (aCons (eVar 1) (aCons (eVar 2) aNil)))))
def t_winner : Nat × Nat × M Fl := (3, 3, m_winner)
def m_law_states : M Fl :=
 (sSeq (sSet 2 (eC (.int 0)))
 (sSeq (sFor (iRange (aCons (eLen (mSlot 1)) aNil)) (tgName 3)
 (sSet 2 (eGet (hdl (eGet (hdl (eGet (mSlot 0) (eVar 2))) (eC (.int 1)))) (eGet (mSlot 1) (eBop .sub (eBop .sub (eLen (mSlot 1)) (eC (.int 1))) (eVar 3))))))
 (sRet (eGet (hdl (eGet (mSlot 0) (eVar 2))) (eC (.int 0))))))
def t_law_states : Nat × Nat × M Fl := (2, 4, m_law_states)
def m_law_stacks : M Fl :=
 (sSeq (sSet 2 (eFz (oLst (aCons (eTup aNil) aNil))))
 (sSeq (sSet 3 (eFz (oLst (aCons (eTup aNil) aNil))))
 (sSeq (sFor (iRange (aCons (eVar 1) aNil)) (tgName 4)
 (sSeq (sSet 5 (eFz (oLst aNil)))
 (sSeq (sFor (iItems (eVar 3)) (tgName 6)
 (sSet 5 (eBop .add (eVar 5) (eFz (oLC (iRange (aCons (eVar 0) aNil)) (tgName 7) (ret true) (eBop .add (eTup (aCons (eVar 7) aNil)) (eVar 6)) [7])))))
 (sSeq (sSet 3 (eVar 5))
 (sSet 2 (eBop .add (eVar 2) (eVar 3)))))))
 (sRet (eVar 2)))))
def t_law_stacks : Nat × Nat × M Fl := (2, 8, m_law_stacks)
def m_law_winner : M Fl :=
 (sSeq (sSet 3 (eC (.int 0)))
 (sSeq (sFor (iRange (aCons (eLen (mSlot 2)) aNil)) (tgName 4)
 (sSet 3 (eGet (hdl (eGet (hdl (eGet (mSlot 0) (eVar 3))) (eC (.int 1)))) (eGet (mSlot 2) (eBop .sub (eBop .sub (eLen (mSlot 2)) (eC (.int 1))) (eVar 4))))))
 (sSeq (sIf (tV (eMem false (eVar 1) (hdl (eGet (hdl (eGet (mSlot 0) (eVar 3))) (eC (.int 0))))))
 (sRet (eC (.int 0)))
 sNext)
 (sRet (eC (.int 1))))))
def t_law_winner : Nat × Nat × M Fl := (3, 5, m_law_winner)
def m_book : M Fl :=
 (sRet (eTup (aCons (eCall "paper" 2 (aCons (eVar 0) (aCons (eC (.int 0)) aNil))) (aCons (eCall "paper" 2 (aCons (eVar 0) (aCons (eC (.int 1)) aNil))) aNil))))
def t_book : Nat × Nat × M Fl := (1, 1, m_book)
def m_law_answer : M Fl :=
 (sRet (eGet (hdl (eFz (oLC (iItems (eGet (hdl (eGet (mSlot 0) (eGet (hdl (eGet (mSlot 1) (eC (.str "notes")))) (eC (.int 0))))) (eC (.int 3)))) (tgName 3) (tV (eCop .eq (eGet (mSlot 3) (eC (.int 1))) (eVar 2))) (eVar 3) [3]))) (eC (.int 0))))
def t_law_answer : Nat × Nat × M Fl := (3, 4, m_law_answer)
def m_law_odd : M Fl :=
 (sRet (eCall "_law_choice" 2 (aCons (eVar 0) (aCons (eFz (oLst (aCons (eC .non) (aCons (eC (.bl true)) (aCons (eC (.str "a")) (aCons (eFz (oLst aNil)) (aCons (eNeg (eC (.int 1))) (aCons (eTup aNil) (aCons (eLen (mSlot 1)) (aCons (eTup (aCons (eTup (aCons (eC (.int 0)) (aCons (eC (.int 0)) aNil))) (aCons (eTup (aCons (eC (.int 0)) (aCons (eC (.int 0)) aNil))) aNil))) (aCons (eTup (aCons (eTup (aCons (eC (.int 0)) (aCons (eC (.int 1)) aNil))) (aCons (eTup (aCons (eC (.int 0)) (aCons (eC (.int 0)) aNil))) aNil))) (aCons (eTup (aCons (eC (.str "pop")) (aCons (eC (.int 0)) aNil))) aNil)))))))))))) aNil))))
def t_law_odd : Nat × Nat × M Fl := (2, 2, m_law_odd)
def m_law_answers : M Fl :=
 (sSeq (sIf (tV (eCop .eq (eVar 2) (eTup aNil)))
 (sRet (eTup (aCons (eTup (aCons (eC (.str "pop")) (aCons (eC (.int 0)) aNil))) aNil)))
 sNext)
 (sSeq (sSet 3 (eCall "_law_draw" 2 (aCons (eVar 0) (aCons (eLen (mSlot 2)) aNil))))
 (sSeq (sSet 4 (eGet (mSlot 2) (eVar 3)))
 (sSeq (sSet 5 (eCall "_law_draw" 2 (aCons (eVar 0) (aCons (eC (.int 6)) aNil))))
 (sSeq (sIf (tV (eCop .eq (eVar 5) (eC (.int 0))))
 (sRet (eCall "_law_row_turned" 3 (aCons (eVar 0) (aCons (eVar 1) (aCons (eVar 2) aNil)))))
 sNext)
 (sSeq (sIf (tV (eCop .eq (eVar 5) (eC (.int 1))))
 (sRet (eCall "_law_put" 3 (aCons (eVar 2) (aCons (eVar 3) (aCons (eCall "_law_put" 3 (aCons (eVar 4) (aCons (eC (.int 0)) (aCons (eCall "_law_choice" 2 (aCons (eVar 0) (aCons (eFz (oLst (aCons (eC (.str "pop")) (aCons (eC (.str "change")) (aCons (eC (.str "push")) aNil))))) aNil))) aNil)))) aNil)))))
 sNext)
 (sSeq (sIf (tV (eCop .eq (eVar 5) (eC (.int 2))))
 (sRet (eCall "_law_put" 3 (aCons (eVar 2) (aCons (eVar 3) (aCons (eCall "_law_put" 3 (aCons (eVar 4) (aCons (eC (.int 1)) (aCons (eBop .sub (eCall "_law_draw" 2 (aCons (eVar 0) (aCons (eC (.int 5)) aNil))) (eC (.int 1))) aNil)))) aNil)))))
 sNext)
 (sSeq (sIf (tOr' (tV (eCop .eq (eVar 5) (eC (.int 3)))) (tOr' (tV (eCop .lt (eLen (mSlot 4)) (eC (.int 4)))) (tV (eCop .eq (eGet (mSlot 4) (eC (.int 3))) (eTup aNil)))))
 (sRet (eCall "_law_put" 3 (aCons (eVar 2) (aCons (eVar 3) (aCons (eCall "_law_row_turned" 3 (aCons (eVar 0) (aCons (eVar 1) (aCons (eVar 4) aNil)))) aNil)))))
 sNext)
 (sSeq (sIf (tV (eCop .eq (eVar 5) (eC (.int 4))))
 (sRet (eCall "_law_put" 3 (aCons (eVar 2) (aCons (eVar 3) (aCons (eCall "_law_put" 3 (aCons (eVar 4) (aCons (eC (.int 3)) (aCons (eCall "_law_row_turned" 3 (aCons (eVar 0) (aCons (eVar 1) (aCons (eGet (mSlot 4) (eC (.int 3))) aNil)))) aNil)))) aNil)))))
 sNext)
 (sSeq (sSet 6 (eCall "_law_draw" 2 (aCons (eVar 0) (aCons (eLen (hdl (eGet (mSlot 4) (eC (.int 3))))) aNil))))
 (sSeq (sSet 7 (eCall "_law_row_turned" 3 (aCons (eVar 0) (aCons (eVar 1) (aCons (eGet (hdl (eGet (mSlot 4) (eC (.int 3)))) (eVar 6)) aNil)))))
 (sRet (eCall "_law_put" 3 (aCons (eVar 2) (aCons (eVar 3) (aCons (eCall "_law_put" 3 (aCons (eVar 4) (aCons (eC (.int 3)) (aCons (eCall "_law_put" 3 (aCons (eGet (mSlot 4) (eC (.int 3))) (aCons (eVar 6) (aCons (eVar 7) aNil)))) aNil)))) aNil))))))))))))))))
def t_law_answers : Nat × Nat × M Fl := (3, 8, m_law_answers)
def m_law_stack : M Fl :=
 (sRet (eTupleOf (hdl (eFz (oLC (iRange (aCons (eCall "_law_draw" 2 (aCons (eVar 0) (aCons (eBop .add (eVar 2) (eC (.int 1))) aNil))) aNil)) (tgName 3) (ret true) (eCall "_law_draw" 2 (aCons (eVar 0) (aCons (eVar 1) aNil))) [3])))))
def t_law_stack : Nat × Nat × M Fl := (3, 4, m_law_stack)
def m_number_in : M Fl :=
 (sSeq (sIf (tAnd' (tV (eCop .eq (eLen (mSlot 0)) (eC (.int 1)))) (tAnd' (tV (eMem false (eVar 0) (hdl (eC (.str "0123456789"))))) (tV (eCop .lt (eInt1 (eVar 0)) (eVar 1)))))
 (sRet (eInt1 (eVar 0)))
 sNext)
 (sRet (eC .non)))
def t_number_in : Nat × Nat × M Fl := (2, 2, m_number_in)
def m_law_some : M Fl :=
 (sSeq (sIf (tV (eCop .gt (eCall "_law_draw" 2 (aCons (eVar 0) (aCons (eC (.int 4)) aNil))) (eC (.int 0))))
 (sRet (eCall "_law_small" 1 (aCons (eVar 0) aNil)))
 sNext)
 (sSeq (sIf (tV (eCop .eq (eCall "_law_draw" 2 (aCons (eVar 0) (aCons (eC (.int 2)) aNil))) (eC (.int 0))))
 (sRet (eCall "_law_duel" 4 (aCons (eVar 0) (aCons (eBop .add (eC (.int 1)) (eCall "_law_draw" 2 (aCons (eVar 0) (aCons (eC (.int 2)) aNil)))) (aCons (eC (.int 3)) (aCons (eC (.int 2)) aNil))))))
 sNext)
 (sRet (eCall "_law_duel" 4 (aCons (eVar 0) (aCons (eBop .add (eC (.int 1)) (eCall "_law_draw" 2 (aCons (eVar 0) (aCons (eC (.int 2)) aNil)))) (aCons (eBop .add (eC (.int 1)) (eCall "_law_draw" 2 (aCons (eVar 0) (aCons (eC (.int 2)) aNil)))) (aCons (eC (.int 3)) aNil))))))))
def t_law_some : Nat × Nat × M Fl := (1, 1, m_law_some)
def m_law_numbered : M Fl :=
 (sSeq (sIf (tV (eCop .eq (eGet (mSlot 0) (eC (.int 0))) (eC (.str "change"))))
 (sRet (eTup (aCons (eC (.str "change")) (aCons (eGet (mSlot 0) (eC (.int 1))) (aCons (eGet (mSlot 1) (eGet (mSlot 0) (eC (.int 2)))) aNil)))))
 sNext)
 (sSeq (sIf (tV (eCop .eq (eGet (mSlot 0) (eC (.int 0))) (eC (.str "push"))))
 (sSeq (sSet 2 (eTupleOf (hdl (eFz (oLC (iItems (eGet (mSlot 0) (eC (.int 3)))) (tgName 3) (ret true) (eTup (aCons (eGet (mSlot 3) (eC (.int 0))) (aCons (eGet (mSlot 3) (eC (.int 1))) (aCons (eGet (mSlot 1) (eGet (mSlot 3) (eC (.int 2)))) aNil)))) [3])))))
 (sRet (eTup (aCons (eC (.str "push")) (aCons (eGet (mSlot 0) (eC (.int 1))) (aCons (eGet (mSlot 1) (eGet (mSlot 0) (eC (.int 2)))) (aCons (eVar 2) aNil)))))))
 sNext)
 (sRet (eVar 0))))
def t_law_numbered : Nat × Nat × M Fl := (2, 4, m_law_numbered)
def m_law_fewer : M Fl :=
 (sSeq (sOwn 2 (oLC (iRange (aCons (eLen (mSlot 1)) aNil)) (tgName 3) (ret true) (eVar 3) [3]))
 (sSeq (sFor (iRange (aCons (eCall "_law_draw" 2 (aCons (eVar 0) (aCons (eC (.int 4)) aNil))) aNil)) (tgName 4)
 (sSeq (sOwn 5 (oLst aNil))
 (sSeq (sFor (iItems (eVar 2)) (tgName 3)
 (sSeq (sOwn 6 (oLC (iItems (eVar 2)) (tgName 7) (tAnd' (tV (eCop .ne (eVar 7) (eVar 3))) (tV (eMem false (eVar 3) (hdl (eCall "_law_tells" 1 (aCons (eGet (mSlot 1) (eVar 7)) aNil)))))) (eVar 7) [7]))
 (sIf (tV (eCop .eq (eVar 6) (eFz (oLst aNil))))
 (sExpr (eApp (mSlot 5) (eVar 3)))
 sNext)))
 (sIf (tV (eCop .ne (eVar 5) (eFz (oLst aNil))))
 (sSeq (sSet 8 (eCall "_law_choice" 2 (aCons (eVar 0) (aCons (eVar 5) aNil))))
 (sOwn 2 (oLC (iItems (eVar 2)) (tgName 3) (tV (eCop .ne (eVar 3) (eVar 8))) (eVar 3) [3])))
 sNext))))
 (sRet (eCall "_law_kept" 2 (aCons (eVar 1) (aCons (eVar 2) aNil))))))
def t_law_fewer : Nat × Nat × M Fl := (2, 9, m_law_fewer)
def m_law_wide : M Fl :=
 (sRet (eCall "_law_duel" 4 (aCons (eVar 0) (aCons (eBop .add (eC (.int 1)) (eCall "_law_draw" 2 (aCons (eVar 0) (aCons (eC (.int 3)) aNil)))) (aCons (eBop .add (eC (.int 1)) (eCall "_law_draw" 2 (aCons (eVar 0) (aCons (eC (.int 3)) aNil)))) (aCons (eC (.int 3)) aNil))))))
def t_law_wide : Nat × Nat × M Fl := (1, 1, m_law_wide)
def m_law_few : M Fl :=
 (sSeq (sAsgT (eCall "_law_choice" 2 (aCons (eVar 0) (aCons (eFz (oLst (aCons (eTup (aCons (eC (.int 1)) (aCons (eC (.int 1)) aNil))) (aCons (eTup (aCons (eC (.int 1)) (aCons (eC (.int 3)) aNil))) (aCons (eTup (aCons (eC (.int 2)) (aCons (eC (.int 1)) aNil))) (aCons (eTup (aCons (eC (.int 2)) (aCons (eC (.int 2)) aNil))) (aCons (eTup (aCons (eC (.int 2)) (aCons (eC (.int 2)) aNil))) (aCons (eTup (aCons (eC (.int 2)) (aCons (eC (.int 3)) aNil))) (aCons (eTup (aCons (eC (.int 3)) (aCons (eC (.int 1)) aNil))) aNil))))))))) aNil))) (tgTup 2 (tgsCons (tgName 1) (tgsCons (tgName 2) tgsNil))))
 (sRet (eCall "_law_duel" 4 (aCons (eVar 0) (aCons (eVar 1) (aCons (eVar 2) (aCons (eCall "_law_choice" 2 (aCons (eVar 0) (aCons (eFz (oLst (aCons (eC (.int 2)) (aCons (eC (.int 2)) (aCons (eC (.int 3)) aNil))))) aNil))) aNil)))))))
def t_law_few : Nat × Nat × M Fl := (1, 3, m_law_few)
def m_law_uses : M Fl :=
 (sSeq (sOwn 2 (oLst aNil))
 (sSeq (sOwn 3 (oLst (aCons (eVar 1) aNil)))
 (sSeq (sFor (iRange (aCons (eC (.int 9)) aNil)) (tgName 4)
 (sIf (tV (eCop .ne (eVar 3) (eFz (oLst aNil))))
 (sSeq (sSet 5 (ePop (mSlot 3)))
 (sFor (iItems (eSorted (mSlot 0))) (tgName 6)
 (sFor (iItems (eGet (mSlot 0) (eVar 6))) (tgName 7)
 (sFor (iItems (eGet (mSlot 7) (eC (.int 1)))) (tgName 8)
 (sIf (tAnd' (tV (eCop .eq (eGet (mSlot 6) (eC (.int 1))) (eVar 5))) (tV (eMem true (eVar 8) (mSlot 2))))
 (sSeq (sExpr (eApp (mSlot 2) (eVar 8)))
 (sExpr (eApp (mSlot 3) (eVar 8))))
 sNext)))))
 sNext))
 (sRet (eVar 2)))))
def t_law_uses : Nat × Nat × M Fl := (2, 9, m_law_uses)
def m_law_users : M Fl :=
 (sRet (eFz (oLC (iRange (aCons (eVar 1) aNil)) (tgName 3) (tOr' (tV (eCop .eq (eVar 3) (eVar 2))) (tV (eMem false (eVar 2) (hdl (eCall "_law_uses" 2 (aCons (eVar 0) (aCons (eVar 3) aNil))))))) (eVar 3) [3])))
def t_law_users : Nat × Nat × M Fl := (3, 4, m_law_users)
def m_law_becomes : M Fl :=
 (sSeq (sSet 2 (eGet (mSlot 0) (eC (.str "now"))))
 (sSeq (sSet 3 (eGet (mSlot 0) (eC (.str "known"))))
 (sSeq (sIf (tV (eCop .ne (eTup (aCons (eGet (mSlot 2) (eC (.str "sides"))) (aCons (eGet (mSlot 2) (eC (.str "ranks"))) aNil))) (eTup (aCons (eGet (mSlot 1) (eC (.str "sides"))) (aCons (eGet (mSlot 1) (eC (.str "ranks"))) aNil)))))
 (sSet 3 (eFz (oLst aNil)))
 sNext)
 (sSeq (sFor (iItems (eSorted (hdl (eGet (mSlot 1) (eC (.str "rows")))))) (tgName 4)
 (sIf (tV (eCop .ne (eGet (hdl (eGet (mSlot 1) (eC (.str "rows")))) (eVar 4)) (eGet (hdl (eGet (mSlot 2) (eC (.str "rows")))) (eVar 4))))
 (sSeq (sSet 5 (eBop .add (eCall "_law_users" 3 (aCons (eGet (mSlot 2) (eC (.str "rows"))) (aCons (eGet (mSlot 1) (eC (.str "letters"))) (aCons (eGet (mSlot 4) (eC (.int 1))) aNil)))) (eCall "_law_users" 3 (aCons (eGet (mSlot 1) (eC (.str "rows"))) (aCons (eGet (mSlot 1) (eC (.str "letters"))) (aCons (eGet (mSlot 4) (eC (.int 1))) aNil))))))
 (sOwn 3 (oLC (iItems (eVar 3)) (tgName 6) (tV (eMem true (eVar 6) (mSlot 5))) (eVar 6) [6])))
 sNext))
 (sSeq (sItem (mSlot 0) (eC (.str "known")) (eVar 3))
 (sItem (mSlot 0) (eC (.str "now")) (eVar 1)))))))
def t_law_becomes : Nat × Nat × M Fl := (2, 7, m_law_becomes)
def m_law_edited : M Fl :=
 (sSeq (sItem (mSlot 0) (eC (.str "past")) (eBop .add (eGet (mSlot 0) (eC (.str "past"))) (eFz (oLst (aCons (eGet (mSlot 0) (eC (.str "now"))) aNil)))))
 (sSeq (sItem (mSlot 0) (eC (.str "future")) (eFz (oLst aNil)))
 (sExpr (eCall "_law_becomes" 2 (aCons (eVar 0) (aCons (eVar 1) aNil))))))
def t_law_edited : Nat × Nat × M Fl := (2, 2, m_law_edited)
end EL.PM
set_option Elab.async false
set_option linter.all false
set_option maxRecDepth 100000
/-! EM3: the drawn source. -/
namespace EL
open PySem (Str PyData)

theorem atI_nat {α : Type} {xs : List α} {n : Nat} : L2.atI xs (n : Int) = xs[n]? := by
  unfold L2.atI L2.ixN
  simp only [Int.natCast_nonneg, if_true]
  by_cases h : (n : Int) < xs.length
  · rw [if_pos h]; simp
  · rw [if_neg h]
    have : xs.length ≤ n := by omega
    simp [List.getElem?_eq_none this]
@[simp] theorem atI_zero {α : Type} {xs : List α} : L2.atI xs 0 = xs[0]? := atI_nat (n := 0)
@[simp] theorem atI_one {α : Type} {xs : List α} : L2.atI xs 1 = xs[1]? := atI_nat (n := 1)
@[simp] theorem atI_two {α : Type} {xs : List α} : L2.atI xs 2 = xs[2]? := atI_nat (n := 2)
@[simp] theorem bop_add {i j : Int} : bop .add (.int i) (.int j) = some (.int (i + j)) := rfl
@[simp] theorem bop_sub {i j : Int} : bop .sub (.int i) (.int j) = some (.int (i - j)) := rfl
theorem bop_mul {i j : Int} (h : -(2 ^ 64) < i ∧ i < 2 ^ 64 ∨ -(2 ^ 64) < j ∧ j < 2 ^ 64) : bop .mul (.int i) (.int j) = some (.int (i * j)) := by
  unfold bop bInt
  exact if_pos (decide_eq_true h)
theorem bop_mod {i j : Int} (h : j ≠ 0) : bop .mod (.int i) (.int j) = some (.int (i.fmod j)) := by
  unfold bop bInt
  exact if_pos (decide_eq_true h)
theorem bop_fdiv {i j : Int} (h : j ≠ 0) (h2 : j.natAbs < 1073741824) : bop .fdiv (.int i) (.int j) = some (.int (i.fdiv j)) := by
  unfold bop bInt
  exact if_pos (decide_eq_true ⟨h, h2⟩)
@[simp] theorem cop_lt {i j : Int} : cop .lt (.int i) (.int j) = some (decide (i < j)) := rfl
@[simp] theorem cop_le {i j : Int} : cop .le (.int i) (.int j) = some (decide (i ≤ j)) := rfl
@[simp] theorem cop_gt {i j : Int} : cop .gt (.int i) (.int j) = some (decide (j < i)) := rfl
@[simp] theorem cop_ge {i j : Int} : cop .ge (.int i) (.int j) = some (decide (j ≤ i)) := rfl
@[simp] theorem int1_int {i : Int} : int1 (.int i) = some (.int i) := rfl
/-- the drawn source: cell 0 -/
abbrev srcO (a b c : Int) : EO := .lst [.int a, .int b, .int c]
/-- _law_draw -/
theorem draw {tt : Tab} (ht : tt "_law_draw" = some PM.t_law_draw) {n : Nat} {rest : List EO} {a b c m : Int} (h0 : 0 < m) (h1 : m < 1073741824) {Q : U → List EO → Prop} {E : Str → Str → U → List EO → Prop}
    (h : ∀ v a' b' : Int, 0 ≤ v → v < m → Q (.int v) (srcO a' b' c :: rest)) : wq (phiT tt (n + 1)) "_law_draw" [.ref 0, .int m] (srcO a b c :: rest) Q E := by
  have key : ∀ x : Int, 0 ≤ x.fmod m ∧ x.fmod m < m := fun x => ⟨Int.fmod_nonneg_of_pos _ h0, Int.fmod_lt_of_pos _ h0⟩
  rw [wq_call ht rfl]
  unfold PM.m_law_draw mkEnv
  by_cases hlt : a < m
  · simp [getU, seqOf, hlt, itemS, lstH, setH, bop_mul, bop_mod, bop_fdiv, Int.ne_of_gt h0, L2.ixN, show m.natAbs < 1073741824 by omega]
    exact h _ _ _ (key _).1 (key _).2
  · simp [getU, seqOf, hlt, itemS, lstH, setH, bop_mul, bop_mod, bop_fdiv, Int.ne_of_gt h0, L2.ixN, show m.natAbs < 1073741824 by omega]
    exact h _ _ _ (key _).1 (key _).2
theorem seqOf_scr {s : S} {ns : List Int} : seqOf s (.u (.scr ns)) = some (false, ns.map U.int) := rfl
theorem getU_scr {s : S} {ns : List Int} {j : Nat} (h : j < ns.length) : getU s (.u (.scr ns)) (.int (j : Int)) = some (.int ns[j]) := by
  show L2.atI (ns.map U.int) (j : Int) = _
  rw [atI_nat, List.getElem?_map, List.getElem?_eq_getElem h]
  rfl
theorem lenU_scr {s : S} {ns : List Int} : lenU s (.u (.scr ns)) = some (.int ns.length) := by
  show some (U.int ((ns.map U.int).length : Nat)) = _
  rw [List.length_map]
theorem rng1_of {j : Int} (h1 : -(2 ^ 62) ≤ j) (h2 : j < 2 ^ 62) : rng1 [.int j] = some (rangeU 0 j.toNat) := if_pos ⟨h1, h2⟩
theorem mem_rangeU {lo : Int} {n : Nat} {u : U} (h : u ∈ rangeU lo n) : ∃ j : Nat, j < n ∧ u = .int (lo + j) := by
  obtain ⟨j, hj, rfl⟩ := List.mem_map.mp h
  exact ⟨j, by simpa using hj, rfl⟩
theorem src_loop {tt : Tab} {n : Nat} {ns : List Int} {k cell : Int} {hp : List EO} {Q : Fl → S → Prop} {E : Str → Str → U → List EO → Prop} : ∀ (us : List U) (x : Int) (v : SV), (∀ u ∈ us, ∃ j : Nat, j < ns.length ∧ u = .int (0 + j)) →
    (∀ (x : Int) (v : SV), Q .nx ⟨[.val (.scr ns), .val (.int k), .val (.int cell), .val (.int x), v], hp⟩) →
    wp (forL (fun u => seqT (tgName 4 u) (sSet 3 (eBop .mod (eInt1 (eBop .add (eBop .mul (eVar 3) (eC (.int 31))) (eGet (mSlot 0) (eVar 4)))) (eC (.int 1000003))))) us) (phiT tt n) ⟨[.val (.scr ns), .val (.int k), .val (.int cell), .val (.int x), v], hp⟩ Q E
  | [], x, v, _, h => wp_forL_nil.mpr (h x v)
  | u :: us, x, v, hu, h => by
    obtain ⟨j, hj, rfl⟩ := hu u (List.mem_cons_self ..)
    rw [Int.zero_add]
    have ih := fun x v => src_loop (tt := tt) (n := n) (Q := Q) (E := E) us x v (fun u hu' => hu u (List.mem_cons_of_mem _ hu')) h
    simp only [↓wp_forL_cons, ↓wp_seqT, ↓wp_tgName, ↓wp_sSet, ↓wp_eBop, ↓wp_eInt1, ↓wp_eVar, ↓wp_eC, ↓wp_eGet, ↓wp_mSlot, List.set_cons_succ, List.set_cons_zero, List.getElem?_cons_succ, List.getElem?_cons_zero, List.length_cons, List.length_nil, Nat.reduceAdd, Nat.reduceLT, true_and, bop_mul (show -(2 ^ 64) < x ∧ x < 2 ^ 64 ∨ -(2 ^ 64) < (31 : Int) ∧ (31 : Int) < 2 ^ 64 by omega), bop_add, oB_some, getU_scr hj, int1_int, bop_mod (show (1000003 : Int) ≠ 0 by decide)]
    exact ih _ _
/-- _law_source at 0, the first cell -/
theorem source {tt : Tab} (ht : tt "_law_source" = some PM.t_law_source) {n : Nat} {ns : List Int} (hl : ns.length < 1000) {Q : U → List EO → Prop} {E : Str → Str → U → List EO → Prop}
    (h : ∀ a b c : Int, Q (.ref 0) [srcO a b c]) : wq (phiT tt (n + 1)) "_law_source" [.scr ns, .int 0] [] Q E := by
  rw [wq_call ht rfl]
  unfold PM.m_law_source mkEnv
  have hr : rng1 [.int (ns.length : Int)] = some (rangeU 0 ns.length) := by rw [rng1_of (by omega) (by omega), Int.toNat_natCast]
  have hm : ∀ u ∈ rangeU 0 ns.length, ∃ j : Nat, j < ns.length ∧ u = .int (0 + j) := fun u hu => mem_rangeU hu
  have m1 : bop .mul (.int 17) (.int 0) = some (.int 0) := bop_mul (by omega)
  have g0 : ∀ (x : Int) (xs : List Int) (s : S), getU s (.u (.scr (x :: xs))) (.int 0) = some (.int x) := fun x xs s => getU_scr (ns := x :: xs) (j := 0) (by simp)
  have hd : ∀ x : Int, bop .mod (.int x) (.int 1000003) = some (.int (x.fmod 1000003)) := fun x => bop_mod (by decide)
  have h2 : ∀ x : Int, bop .mul (.int (-2)) (.int x) = some (.int (-2 * x)) := fun x => bop_mul (by omega)
  have fin : ∀ (v : SV) (c y : Int), wp (sRet (eCell (oLst (aCons (eVar 2) (aCons (eBop .add (eBop .mod (eInt1 (eVar 2)) (eC (.int 1000003))) (eVar 3)) (aCons (eVar 1) aNil)))))) (phiT tt n) ⟨[.val (.scr ns), .val (.int 0), .val (.int c), .val (.int y), v], []⟩ (fun f s => match f with
    | .rt u => Q u s.hp
    | .nx => Q .non s.hp
    | _ => False) E := fun v c y => by
    simp [hd, cellOf, line]
    exact h _ _ _
  have h17 : ∀ (c : Int), wp (sSeq (sFor (iRange (aCons (eLen (mSlot 0)) aNil)) (tgName 4)
 (sSet 3 (eBop .mod (eInt1 (eBop .add (eBop .mul (eVar 3) (eC (.int 31))) (eGet (mSlot 0) (eVar 4)))) (eC (.int 1000003)))))
 (sRet (eCell (oLst (aCons (eVar 2) (aCons (eBop .add (eBop .mod (eInt1 (eVar 2)) (eC (.int 1000003))) (eVar 3)) (aCons (eVar 1) aNil))))))) (phiT tt n) ⟨[.val (.scr ns), .val (.int 0), .val (.int c), .val (.int 0), .no], []⟩ (fun f s => match f with
    | .rt u => Q u s.hp
    | .nx => Q .non s.hp
    | _ => False) E := fun c => by
    simp only [↓wp_sSeq, ↓wp_sFor, ↓wp_iRange, ↓wp_aCons, ↓wp_aNil, ↓wp_eLen, ↓wp_mSlot, List.getElem?_cons_zero, lenU_scr, oB_some, hr]
    exact src_loop _ _ _ hm fun x v => fin v c x
  cases ns with
  | nil => simpa [lenU_scr, m1] using h17 0
  | cons x xs =>
    by_cases hx : x < 0
    · have h3 := h17 (-2 * x + 1)
      clear h17 fin h hr hm
      simp [lenU_scr, g0, hx, h2, m1]
      simp [lenU_scr] at h3
      exact h3
    · have h3 := h17 x
      clear h17 fin h hr hm
      simp [lenU_scr, g0, hx, h2, m1]
      simp [lenU_scr] at h3
      exact h3
end EL
set_option Elab.async false
set_option linter.all false
set_option maxRecDepth 100000
/-! EM4: Lean values as E values; ==, in, sorted of them. -/
namespace EL
open PySem (Str PyData)
open PySem.W (Datum DatumOrd Tup)

class Enc (α : Type) [DecidableEq α] [Datum α] where
  u : α → U
  ud : ∀ a, toD (u a) = some (Datum.toD a)
  can : ∀ a : α, (Datum.toD a).canLay0 = true
open Enc (u)
instance : Enc Int := ⟨.int, fun a => by simp only [toD]; rfl, fun a => rfl⟩
instance : Enc Bool := ⟨.bl, fun a => by simp only [toD]; rfl, fun a => rfl⟩
instance : Enc Unit := ⟨fun _ => .non, fun a => by simp only [toD]; rfl, fun a => rfl⟩
section
variable {α β : Type} [DecidableEq α] [Datum α] [Enc α] [DecidableEq β] [Datum β] [Enc β]
theorem toDs_map : ∀ xs : List α, toDs (xs.map u) = some (xs.map Datum.toD)
  | [] => by simp only [List.map_nil, toDs]
  | x :: xs => by simp only [List.map_cons, toDs, Enc.ud, toDs_map xs]
theorem can_map : ∀ xs : List α, PyData.canLayAll0 (xs.map Datum.toD) = true
  | [] => rfl
  | x :: xs => by rw [List.map_cons, PyData.canLayAll0, Enc.can, can_map xs]; rfl
instance : Enc (List α) := ⟨fun xs => .lst (xs.map u), fun xs => by simp only [toD, toDs_map, Option.map_some]; rfl, fun xs => can_map xs⟩
instance : Enc (Tup α) := ⟨fun xs => .tup (xs.items.map u), fun xs => by simp only [toD, toDs_map, Option.map_some]; rfl, fun xs => can_map xs.items⟩
instance : Enc (α × β) := ⟨fun p => .tup [u p.1, u p.2], fun p => by simp only [toD, toDs, Enc.ud, Option.map_some]; rfl, fun p => by
  show PyData.canLayAll0 [_, _] = true
  simp only [PyData.canLayAll0, Enc.can, Bool.and_self]⟩
theorem u_int (i : Int) : u i = U.int i := rfl
theorem u_pair (p : α × β) : u p = U.tup [u p.1, u p.2] := rfl
theorem u_tup (p : Tup α) : u p = U.tup (p.items.map u) := rfl
theorem toS_enc (h : Datum.depth α ≤ 64) (a : α) : toS (u a) = some (Datum.toD a) := by
  unfold toS
  rw [Enc.ud]
  have : PySem.SeqAt.shaped (Datum.toD a) = true := by
    unfold PySem.SeqAt.shaped
    rw [Enc.can, Bool.true_and]
    exact decide_eq_true (Nat.le_trans (Datum.depth_le a) h)
  simp only [this, if_true]
theorem eqU_enc (h : Datum.depth α ≤ 64) (a b : α) : eqU (u a) (u b) = some (decide (a = b)) := by
  unfold eqU
  rw [toS_enc h, toS_enc h]
  simp only [Datum.eqv]
theorem cop_eq_enc (h : Datum.depth α ≤ 64) (a b : α) : cop .eq (u a) (u b) = some (decide (a = b)) := eqU_enc h a b
theorem cop_ne_enc (h : Datum.depth α ≤ 64) (a b : α) : cop .ne (u a) (u b) = some (!decide (a = b)) := by
  show (eqU (u a) (u b)).map (!·) = _
  rw [eqU_enc h]; rfl
theorem inU_enc (h : Datum.depth α + 1 ≤ 64) (a : α) (bs : List α) : inU (u a) (bs.map u) = some (decide (a ∈ bs)) := by
  have h1 : toS (U.lst (bs.map u)) = some (.list (bs.map Datum.toD)) := toS_enc (α := List α) h bs
  unfold inU
  rw [toS_enc (by omega), h1]
  simp only
  congr 1
  rw [Bool.eq_iff_iff, List.any_eq_true, decide_eq_true_eq]
  constructor
  · rintro ⟨d, hd, e⟩
    obtain ⟨b, hb, rfl⟩ := List.mem_map.mp hd
    rw [Datum.eqv, decide_eq_true_eq] at e
    rw [← e]; exact hb
  · intro hb
    exact ⟨_, List.mem_map.mpr ⟨a, hb, rfl⟩, by rw [Datum.eqv]; simp⟩
end
section
variable {α : Type} [DecidableEq α] [DatumOrd α] [Enc α]
theorem dOf_enc (a : α) : dOf (u a) = Datum.toD a := by unfold dOf; rw [Enc.ud]; rfl
theorem leU_enc (a b : α) : leU (u a) (u b) = !DatumOrd.lt b a := by
  show (!PySem.W.dataLt (dOf (u b)) (dOf (u a))) = _
  rw [dOf_enc, dOf_enc, DatumOrd.lt_eq]
/-- sorted of what is sorted -/
theorem sortU_sorted (h : Datum.depth α ≤ 64) {as : List α} (hl : as.length ≤ line) (ht : (as.all fun a => isTup1 (Datum.toD a)) = true ∨ (as.all fun a => noTup (Datum.toD a)) = true) (hs : as.Pairwise fun a b => DatumOrd.lt b a = false) : sortU (as.map u) = some (.lst (as.map u)) := by
  have h1 : (as.map u).all (fun z => (toS z).isSome) = true := by
    rw [List.all_map, List.all_eq_true]; intro a _; simp [toS_enc h]
  have h2 : (as.map u).all (fun z => (as.map u).all fun v => PySem.W.alike (dOf z) (dOf v)) = true := by
    rw [List.all_map, List.all_eq_true]; intro a _
    simp only [Function.comp, List.all_map, List.all_eq_true]
    intro b _
    show PySem.W.alike (dOf (u a)) (dOf (u b)) = true
    rw [dOf_enc, dOf_enc]; exact DatumOrd.alike a b
  have h3 : ((as.map u).all (fun z => isTup1 (dOf z)) || (as.map u).all fun z => noTup (dOf z)) = true := by
    rw [List.all_map, List.all_map, Bool.or_eq_true]
    rcases ht with z | z
    · left
      rw [List.all_eq_true] at z ⊢; intro a ha; show isTup1 (dOf (u a)) = true; rw [dOf_enc]; exact z a ha
    · right
      rw [List.all_eq_true] at z ⊢; intro a ha; show noTup (dOf (u a)) = true; rw [dOf_enc]; exact z a ha
  have ok : sortOk (as.map u) = true := by
    unfold sortOk
    rw [h1, h2, h3, List.length_map]
    simpa using hl
  unfold sortU
  rw [if_pos ok]
  rw [List.mergeSort_of_pairwise]
  rw [List.pairwise_map]
  refine hs.imp fun {a b} q => ?_
  rw [leU_enc, q]
  rfl
end
/-! ### masks -/
theorem bitAnd_nat (a b : Nat) : PySem.Builtin.bitAnd (a : Int) (b : Int) = ((a &&& b : Nat) : Int) := by
  rw [PyProof.Rows.bitAnd_pp (Int.natCast_nonneg a) (Int.natCast_nonneg b)]; simp
theorem bitOr_nat (a b : Nat) : PySem.Builtin.bitOr (a : Int) (b : Int) = ((a ||| b : Nat) : Int) := by
  rw [L2.bitOr_nn (Int.natCast_nonneg a) (Int.natCast_nonneg b)]; simp
@[simp] theorem bop_band {a b : Nat} : bop .band (.int a) (.int b) = some (.int ((a &&& b : Nat) : Int)) := by
  show some (U.int (PySem.Builtin.bitAnd a b)) = _
  rw [bitAnd_nat]
@[simp] theorem bop_bor {a b : Nat} : bop .bor (.int a) (.int b) = some (.int ((a ||| b : Nat) : Int)) := by
  show some (U.int (PySem.Builtin.bitOr a b)) = _
  rw [bitOr_nat]
theorem bop_shl {i : Int} {b : Nat} (h1 : b ≤ 1000000) (h2 : i.natAbs < 2 ^ 64) : bop .shl (.int i) (.int b) = some (.int (i * 2 ^ b)) := by
  have : bop .shl (.int i) (.int b) = some (.int (i * 2 ^ (b : Int).toNat)) := by
    unfold bop bInt
    exact if_pos (decide_eq_true ⟨by omega, by omega, h2⟩)
  rw [this, Int.toNat_natCast]
end EL
set_option Elab.async false
set_option linter.all false
set_option maxRecDepth 100000
/-! EM5: the masks of claims. -/
namespace EL
open PySem (Str PyData)
open PySem.W (Datum DatumOrd Tup)
open Enc (u)

def toP (p : Nat × Nat) : Int × Int := (p.1, p.2)
def pU (p : Nat × Nat) : U := u (toP p)
theorem pU_eq (s r : Nat) : pU (s, r) = .tup [.int s, .int r] := rfl
/-- the place of a pair -/
def plc (p : Nat × Nat) : Nat := 3 * p.1 + p.2
def grid : List (Nat × Nat) := (List.range 3).flatMap fun s => (List.range 3).map fun r => (s, r)
def pairsN (m : Nat) : List (Nat × Nat) := grid.filter fun p => m.testBit (plc p)
def maskN (ps : List (Nat × Nat)) : Nat := ps.foldl (fun a p => a ||| 2 ^ plc p) 0
def lowN (m r : Nat) : Nat := (pairsN m).foldl (fun a p => a ||| 2 ^ plc (p.1, min p.2 r)) 0
def pairsU (ps : List (Nat × Nat)) : U := .tup (ps.map pU)

section
variable {tt : Tab} {n : Nat} {hp : List EO}
theorem bit_eq (ht : tt "bit" = some PM.t_bit) {s r : Nat} (hs : s ≤ 1000) (hr : r ≤ 1000) : phiT tt (n + 1) "bit" [.int s, .int r] hp = some (.ok (.int ((2 ^ plc (s, r) : Nat) : Int)) hp) := by
  refine eq_of_wq ?_
  rw [wq_call ht rfl]
  have e1 : bop .mul (.int 3) (.int s) = some (.int ((3 * s : Nat) : Int)) := by rw [bop_mul (by omega)]; simp
  have e2 : bop .shl (.int 1) (.int ((plc (s, r) : Nat) : Int)) = some (.int ((2 ^ plc (s, r) : Nat) : Int)) := by
    rw [bop_shl (by unfold plc; simp; omega) (by decide)]; simp
  have e3 : bop .add (.int ((3 * s : Nat) : Int)) (.int r) = some (.int ((plc (s, r) : Nat) : Int)) := by rw [bop_add]; simp [plc]
  unfold PM.m_bit mkEnv
  simp only [List.map_cons, List.map_nil, List.length_cons, List.length_nil, ↓wp_sRet, ↓wp_eBop, ↓wp_eC, ↓wp_eVar, List.cons_append, List.nil_append, List.getElem?_cons_zero, List.getElem?_cons_succ, e1, e2, e3, oB_some, and_self]
theorem bit_wq (ht : tt "bit" = some PM.t_bit) {s r : Nat} (hs : s ≤ 1000) (hr : r ≤ 1000) {Q : U → List EO → Prop} {E : Str → Str → U → List EO → Prop} : wq (phiT tt (n + 1)) "bit" [.int s, .int r] hp Q E ↔ Q (.int ((2 ^ plc (s, r) : Nat) : Int)) hp := wq_of_eq (bit_eq ht hs hr)
theorem range3 : rangeU 0 3 = [.int 0, .int 1, .int 2] := rfl
theorem and_pow (m k : Nat) : (((m &&& 2 ^ k : Nat) : Int) != 0) = m.testBit k := by
  have h : (m &&& 2 ^ k = 0) ↔ m.testBit k = false := by
    constructor
    · intro h
      have q := congrArg (fun z => Nat.testBit z k) h
      simpa [Nat.testBit_and, Nat.testBit_two_pow_self] using q
    · intro h
      apply Nat.eq_of_testBit_eq
      intro i
      rw [Nat.testBit_and, Nat.zero_testBit]
      by_cases e : k = i
      · subst e; rw [h]; rfl
      · rw [Nat.testBit_two_pow_of_ne e, Bool.and_false]
  cases q : m.testBit k with
  | true =>
    have : ¬ (m &&& 2 ^ k = 0) := fun z => by rw [h.mp z] at q; cases q
    simp only [bne_iff_ne, ne_eq]
    omega
  | false => rw [h.mpr q]; rfl
theorem truU_int {s : S} {i : Int} : truU s (.u (.int i)) = some (i != 0) := rfl
theorem pairs_eq (ht : tt "bit" = some PM.t_bit) (hp' : tt "pairs_of" = some PM.t_pairs_of) {m : Nat} : phiT tt (n + 2) "pairs_of" [.int m] hp = some (.ok (pairsU (pairsN m)) hp) := by
  refine eq_of_wq ?_
  rw [wq_call hp' rfl]
  unfold PM.m_pairs_of mkEnv
  have hb : ∀ (s r : Nat), s ≤ 2 → r ≤ 2 → ∀ Q : U → List EO → Prop, wq (phiT tt (n + 1)) "bit" [.int s, .int r] hp Q noE ↔ Q (.int ((2 ^ plc (s, r) : Nat) : Int)) hp := fun s r hs hr Q => bit_wq ht (by omega) (by omega)
  simp only [↓wp_sRet, ↓wp_eTupleOf, ↓wp_hdl, ↓wp_eFz, List.map_cons, List.map_nil, List.length_cons, List.length_nil]
  refine wp_lc2 (by simp) 3 (fun _ => true) (fun _ => rangeU 0 3) (fun a b => match a, b with
    | .int s, .int r => if m.testBit (3 * s + r).toNat = true then some (.tup [.int s, .int r]) else none
    | _, _ => none) ?_
  have hr : rng1 [.int 3] = some (rangeU 0 3) := rfl
  simp only [↓wp_iRange, ↓wp_aCons, ↓wp_aNil, ↓wp_eC, hr, oB_some]
  refine ⟨by decide, fun _ _ => by simp [rangeU], ?_, ?_⟩
  · intro v hv
    obtain ⟨s, hs, rfl⟩ := mem_rangeU hv
    rw [Int.zero_add]
    simp only [↓wp_tgName, ↓wp_ret, wipeE, List.cons_append, List.nil_append, List.replicate, List.set_cons_succ, List.set_cons_zero, List.length_cons, List.length_nil, Nat.reduceAdd, Nat.reduceLT, Nat.reduceSub, true_and, forall_const, ↓wp_iRange, ↓wp_aCons, ↓wp_aNil, ↓wp_eC, hr, oB_some]
    intro v1 hv1
    obtain ⟨r, hr1, rfl⟩ := mem_rangeU hv1
    rw [Int.zero_add]
    simp only [↓wp_tgName, ↓wp_tTru, ↓wp_hdl, ↓wp_eBop, ↓wp_eVar, ↓wp_eCall, ↓wp_aCons, ↓wp_aNil, List.set_cons_succ, List.set_cons_zero, List.length_cons, List.length_nil, Nat.reduceAdd, Nat.reduceLT, List.getElem?_cons_zero, List.getElem?_cons_succ, true_and, hb s r (by omega) (by omega), bop_band, oB_some, truU_int, and_pow, ↓wp_eTup, and_true, plc]
    have e : (3 * (s : Int) + r).toNat = 3 * s + r := by omega
    rw [e]
    cases m.testBit (3 * s + r) <;> simp [line]
  · simp only [frzU_ol, oB_some, tupleU, seqOf]
    refine ⟨?_, trivial⟩
    unfold pairsU pairsN grid
    congr 1
    simp only [range3, List.filterMap_cons, List.filterMap_nil, List.flatMap_cons, List.flatMap_nil, if_true]
    simp only [show List.range 3 = [0, 1, 2] from rfl, List.map_cons, List.map_nil, List.flatMap_cons, List.flatMap_nil, List.filter_append, List.map_append, List.filter_cons, List.filter_nil, plc]
    have key : ∀ (s r : Nat), (3 * (s : Int) + r).toNat = 3 * s + r := fun s r => by omega
    have k0 := key 0; have k1 := key 1; have k2 := key 2
    simp only [Int.reduceMul, Int.reduceAdd, Nat.reduceMul, Nat.reduceAdd, show (0 : Int).toNat = 0 from rfl, show (1 : Int).toNat = 1 from rfl, show (2 : Int).toNat = 2 from rfl, show (3 : Int).toNat = 3 from rfl, show (4 : Int).toNat = 4 from rfl, show (5 : Int).toNat = 5 from rfl, show (6 : Int).toNat = 6 from rfl, show (7 : Int).toNat = 7 from rfl, show (8 : Int).toNat = 8 from rfl]
    cases m.testBit 0 <;> cases m.testBit 1 <;> cases m.testBit 2 <;> cases m.testBit 3 <;> cases m.testBit 4 <;> cases m.testBit 5 <;> cases m.testBit 6 <;> cases m.testBit 7 <;> cases m.testBit 8 <;> rfl
/-- the places of a row of pairs, joined -/
def orN (a : Nat) (ps : List (Nat × Nat)) : Nat := ps.foldl (fun a p => a ||| 2 ^ plc p) a
theorem mask_loop (ht : tt "bit" = some PM.t_bit) {v0 : SV} {Q : Fl → S → Prop} {E : Str → Str → U → List EO → Prop} : ∀ (ps : List (Nat × Nat)) (a : Nat) (x y : SV), (∀ p ∈ ps, p.1 ≤ 1000 ∧ p.2 ≤ 1000) →
    (∀ x y, Q .nx ⟨[v0, .val (.int (orN a ps)), x, y], hp⟩) →
    wp (forL (fun u => seqT (tgTup 2 (tgsCons (tgName 2) (tgsCons (tgName 3) tgsNil)) u) (sSet 1 (eBop .bor (eVar 1) (eCall "bit" 2 (aCons (eVar 2) (aCons (eVar 3) aNil)))))) (ps.map pU)) (phiT tt (n + 1)) ⟨[v0, .val (.int a), x, y], hp⟩ Q E
  | [], a, x, y, _, h => wp_forL_nil.mpr (h x y)
  | (s, r) :: ps, a, x, y, hps, h => by
    have hsr := hps (s, r) (List.mem_cons_self ..)
    have ih := mask_loop ht (v0 := v0) (Q := Q) (E := E) ps (a ||| 2 ^ plc (s, r)) (.val (.int s)) (.val (.int r)) (fun p hp => hps p (List.mem_cons_of_mem _ hp)) h
    rw [List.map_cons, pU_eq]
    simp only [↓wp_forL_cons, ↓wp_seqT, ↓wp_tgTup, ↓wp_tgsCons, ↓wp_tgsNil, ↓wp_tgName, ↓wp_sSet, ↓wp_eBop, ↓wp_eVar, ↓wp_eCall, ↓wp_aCons, ↓wp_aNil, List.set_cons_succ, List.set_cons_zero, List.length_cons, List.length_nil, Nat.reduceAdd, Nat.reduceLT, List.getElem?_cons_zero, List.getElem?_cons_succ, true_and, bit_wq ht hsr.1 hsr.2, bop_bor, oB_some]
    exact ih
theorem mask_eq (ht : tt "bit" = some PM.t_bit) (hm : tt "mask_of" = some PM.t_mask_of) {ps : List (Nat × Nat)} (hps : ∀ p ∈ ps, p.1 ≤ 1000 ∧ p.2 ≤ 1000) : phiT tt (n + 2) "mask_of" [pairsU ps] hp = some (.ok (.int (maskN ps)) hp) := by
  refine eq_of_wq ?_
  rw [wq_call hm rfl]
  unfold PM.m_mask_of mkEnv pairsU
  simp only [↓wp_sSeq, ↓wp_sSet, ↓wp_eC, ↓wp_sFor, ↓wp_iItems, ↓wp_eVar, itemsU, oB_some, List.map_cons, List.map_nil, List.cons_append, List.nil_append, List.replicate, List.set_cons_succ, List.set_cons_zero, List.length_cons, List.length_nil, Nat.reduceAdd, Nat.reduceLT, Nat.reduceSub, List.getElem?_cons_zero, List.getElem?_cons_succ, true_and]
  refine mask_loop ht (v0 := _) ps 0 .no .no hps fun x y => ?_
  simp only [↓wp_sRet, ↓wp_eVar, List.getElem?_cons_zero, List.getElem?_cons_succ, and_true]
  rfl
theorem mm2_min {i j : Nat} : mm2 true [.int i, .int j] = some (.int ((min i j : Nat) : Int)) := by
  show some (U.int (if (j : Int) < i then (j : Int) else i)) = _
  congr 2
  by_cases h : j < i
  · rw [if_pos (by omega), Nat.min_eq_right (by omega)]
  · rw [if_neg (by omega), Nat.min_eq_left (by omega)]
def orLow (r : Nat) (a : Nat) (ps : List (Nat × Nat)) : Nat := ps.foldl (fun a p => a ||| 2 ^ plc (p.1, min p.2 r)) a
theorem low_loop (ht : tt "bit" = some PM.t_bit) {v0 : SV} {r : Nat} {Q : Fl → S → Prop} {E : Str → Str → U → List EO → Prop} : ∀ (ps : List (Nat × Nat)) (a : Nat) (x y : SV), (∀ p ∈ ps, p.1 ≤ 1000 ∧ p.2 ≤ 1000) →
    (∀ x y, Q .nx ⟨[v0, .val (.int r), .val (.int (orLow r a ps)), x, y], hp⟩) →
    wp (forL (fun u => seqT (tgTup 2 (tgsCons (tgName 3) (tgsCons (tgName 4) tgsNil)) u) (sSet 2 (eBop .bor (eVar 2) (eCall "bit" 2 (aCons (eVar 3) (aCons (eMM2 true (aCons (eVar 4) (aCons (eVar 1) aNil))) aNil)))))) (ps.map pU)) (phiT tt (n + 1)) ⟨[v0, .val (.int r), .val (.int a), x, y], hp⟩ Q E
  | [], a, x, y, _, h => wp_forL_nil.mpr (h x y)
  | (s, t) :: ps, a, x, y, hps, h => by
    have hsr := hps (s, t) (List.mem_cons_self ..)
    have ih := low_loop ht (v0 := v0) (r := r) (Q := Q) (E := E) ps (a ||| 2 ^ plc (s, min t r)) (.val (.int s)) (.val (.int t)) (fun p hp => hps p (List.mem_cons_of_mem _ hp)) h
    rw [List.map_cons, pU_eq]
    simp only [↓wp_forL_cons, ↓wp_seqT, ↓wp_tgTup, ↓wp_tgsCons, ↓wp_tgsNil, ↓wp_tgName, ↓wp_sSet, ↓wp_eBop, ↓wp_eVar, ↓wp_eCall, ↓wp_aCons, ↓wp_aNil, ↓wp_eMM2, mm2_min, List.set_cons_succ, List.set_cons_zero, List.length_cons, List.length_nil, Nat.reduceAdd, Nat.reduceLT, List.getElem?_cons_zero, List.getElem?_cons_succ, true_and, bit_wq ht hsr.1 (Nat.le_trans (Nat.min_le_left t r) hsr.2), bop_bor, oB_some]
    exact ih
theorem grid_small {p : Nat × Nat} (h : p ∈ grid) : p.1 ≤ 2 ∧ p.2 ≤ 2 := by
  revert p
  decide
theorem pairs_small {m : Nat} {p : Nat × Nat} (h : p ∈ pairsN m) : p.1 ≤ 2 ∧ p.2 ≤ 2 := grid_small (List.mem_filter.mp h).1
theorem low_eq (ht : tt "bit" = some PM.t_bit) (hp' : tt "pairs_of" = some PM.t_pairs_of) (hm : tt "low" = some PM.t_low) {m r : Nat} : phiT tt (n + 3) "low" [.int m, .int r] hp = some (.ok (.int (lowN m r)) hp) := by
  refine eq_of_wq ?_
  rw [wq_call hm rfl]
  unfold PM.m_low mkEnv
  have hq : ∀ Q : U → List EO → Prop, wq (phiT tt (n + 2)) "pairs_of" [.int m] hp Q noE ↔ Q (pairsU (pairsN m)) hp := fun Q => wq_of_eq (pairs_eq ht hp')
  simp only [↓wp_sSeq, ↓wp_sSet, ↓wp_eC, ↓wp_sFor, ↓wp_iItems, ↓wp_eVar, ↓wp_eCall, ↓wp_aCons, ↓wp_aNil, List.map_cons, List.map_nil, List.cons_append, List.nil_append, List.replicate, List.set_cons_succ, List.set_cons_zero, List.length_cons, List.length_nil, Nat.reduceAdd, Nat.reduceLT, Nat.reduceSub, List.getElem?_cons_zero, List.getElem?_cons_succ, true_and, hq, pairsU, itemsU, oB_some]
  refine low_loop ht (v0 := _) (pairsN m) 0 .no .no (fun p hp => by have := pairs_small hp; omega) fun x y => ?_
  simp only [↓wp_sRet, ↓wp_eVar, List.getElem?_cons_zero, List.getElem?_cons_succ, and_true]
  rfl
end
end EL
set_option Elab.async false
set_option linter.all false
set_option maxRecDepth 100000
set_option maxHeartbeats 0
namespace K03
open PySem PySem.Spec PyProof.Rows L2 EL
def top (i : Nat) : Stmt := PySem.Challenge.pw_towerduel_k03_claims_lowered.main.body.getD i (.Pass ⟨0, 0, 0, 0⟩)
def G : Glb := ⟨[("bit", "bit", 2), ("pairs_of", "pairs_of", 1), ("mask_of", "mask_of", 1), ("low", "low", 2), ("lowered", "lowered", 2), ("_law_draw", "_law_draw", 2), ("_law_source", "_law_source", 2), ("_law_low", "_law_low", 2)], [("WIDTH", 3)], ["int", "len", "min", "range", "sorted", "tuple"]⟩
def m_lowered : M Fl :=
 (sRet (eCall "pairs_of" 1 (aCons (eCall "low" 2 (aCons (eCall "mask_of" 1 (aCons (eVar 0) aNil)) (aCons (eVar 1) aNil))) aNil)))
def m_law : M Fl :=
 (sSeq (sSet 1 (eCall "_law_source" 2 (aCons (eVar 0) (aCons (eC (.int 0)) aNil))))
 (sSeq (sOwn 2 (oLst aNil))
 (sSeq (sFor (iRange (aCons (eC (.int 3)) aNil)) (tgName 3)
 (sFor (iRange (aCons (eC (.int 3)) aNil)) (tgName 4)
 (sIf (tV (eCop .eq (eCall "_law_draw" 2 (aCons (eVar 1) (aCons (eC (.int 2)) aNil))) (eC (.int 0))))
 (sExpr (eApp (mSlot 2) (eTup (aCons (eVar 3) (aCons (eVar 4) aNil)))))
 sNext)))
 (sSeq (sSet 5 (eCall "_law_draw" 2 (aCons (eVar 1) (aCons (eC (.int 3)) aNil))))
 (sSeq (sSet 6 (eCall "_law_draw" 2 (aCons (eVar 1) (aCons (eC (.int 3)) aNil))))
 (sSeq (sSet 7 (eCall "lowered" 2 (aCons (eTupleOf (mSlot 2)) (aCons (eVar 5) aNil))))
 (sSeq (sIf (tV (eCop .ne (eVar 7) (eCall "_law_low" 2 (aCons (eTupleOf (mSlot 2)) (aCons (eVar 5) aNil)))))
 (sRet (eC (.bl false)))
 sNext)
 (sRet (eCop .eq (eCall "lowered" 2 (aCons (eVar 7) (aCons (eVar 6) aNil))) (eCall "lowered" 2 (aCons (eTupleOf (mSlot 2)) (aCons (eMM2 true (aCons (eVar 5) (aCons (eVar 6) aNil))) aNil))))))))))))
abbrev s_bit : Stmt := top 2
def e_bit : DE := ⟨⟨("bit", none), "bit", "bit", defArgs s_bit, defBody s_bit, defScope s_bit, [], []⟩, ["state", "rank"], ["state", "rank"], [], [], false, PM.m_bit⟩
theorem ok_bit : e_bit.Ok G := ⟨scopeB_ok (by kernel_rfl), chk_body (n := 60) (by kernel_rfl), rfl, rfl, fun _ _ _ _ _ _ us hl => match us, hl with | [_, _], _ => rfl⟩
abbrev s_pairs_of : Stmt := top 3
def e_pairs_of : DE := ⟨⟨("pairs_of", none), "pairs_of", "pairs_of", defArgs s_pairs_of, defBody s_pairs_of, defScope s_pairs_of, [], []⟩, ["mask", "state", "rank"], ["mask"], [], [], false, PM.m_pairs_of⟩
theorem ok_pairs_of : e_pairs_of.Ok G := ⟨scopeB_ok (by kernel_rfl), chk_body (n := 60) (by kernel_rfl), rfl, rfl, fun _ _ _ _ _ _ us hl => match us, hl with | [_], _ => rfl⟩
abbrev s_mask_of : Stmt := top 4
def e_mask_of : DE := ⟨⟨("mask_of", none), "mask_of", "mask_of", defArgs s_mask_of, defBody s_mask_of, defScope s_mask_of, [], []⟩, ["pairs", "told", "state", "rank"], ["pairs"], [], [], false, PM.m_mask_of⟩
theorem ok_mask_of : e_mask_of.Ok G := ⟨scopeB_ok (by kernel_rfl), chk_body (n := 60) (by kernel_rfl), rfl, rfl, fun _ _ _ _ _ _ us hl => match us, hl with | [_], _ => rfl⟩
abbrev s_low : Stmt := top 5
def e_low : DE := ⟨⟨("low", none), "low", "low", defArgs s_low, defBody s_low, defScope s_low, [], []⟩, ["mask", "rank", "told", "state", "other"], ["mask", "rank"], [], [], false, PM.m_low⟩
theorem ok_low : e_low.Ok G := ⟨scopeB_ok (by kernel_rfl), chk_body (n := 60) (by kernel_rfl), rfl, rfl, fun _ _ _ _ _ _ us hl => match us, hl with | [_, _], _ => rfl⟩
abbrev s_lowered : Stmt := top 7
def e_lowered : DE := ⟨⟨("lowered", none), "lowered", "lowered", defArgs s_lowered, defBody s_lowered, defScope s_lowered, [], []⟩, ["claim", "rank"], ["claim", "rank"], [], [], false, m_lowered⟩
theorem ok_lowered : e_lowered.Ok G := ⟨scopeB_ok (by kernel_rfl), chk_body (n := 60) (by kernel_rfl), rfl, rfl, fun _ _ _ _ _ _ us hl => match us, hl with | [_, _], _ => rfl⟩
abbrev s_law_draw : Stmt := top 9
def e_law_draw : DE := ⟨⟨("_law_draw", none), "_law_draw", "_law_draw", defArgs s_law_draw, defBody s_law_draw, defScope s_law_draw, [], []⟩, ["src", "many", "value"], ["src", "many"], [], [], false, PM.m_law_draw⟩
theorem ok_law_draw : e_law_draw.Ok G := ⟨scopeB_ok (by kernel_rfl), chk_body (n := 60) (by kernel_rfl), rfl, rfl, fun _ _ _ _ _ _ us hl => match us, hl with | [_, _], _ => rfl⟩
abbrev s_law_source : Stmt := top 10
def e_law_source : DE := ⟨⟨("_law_source", none), "_law_source", "_law_source", defArgs s_law_source, defBody s_law_source, defScope s_law_source, [], []⟩, ["script", "k", "cell", "mixed", "j"], ["script", "k"], [], [], true, PM.m_law_source⟩
theorem ok_law_source : e_law_source.Ok G := ⟨scopeB_ok (by kernel_rfl), chk_body (n := 60) (by kernel_rfl), rfl, rfl, fun _ _ _ _ _ _ us hl => match us, hl with | [_, _], _ => rfl⟩
abbrev s_law_low : Stmt := top 11
def e_law_low : DE := ⟨⟨("_law_low", none), "_law_low", "_law_low", defArgs s_law_low, defBody s_law_low, defScope s_law_low, [], []⟩, ["claim", "rank", "told", "state", "other", "pair"], ["claim", "rank"], [2], [], false, PM.m_law_low⟩
theorem ok_law_low : e_law_low.Ok G := ⟨scopeB_ok (by kernel_rfl), chk_body (n := 60) (by kernel_rfl), rfl, rfl, fun _ _ _ _ _ _ us hl => match us, hl with | [_, _], _ => rfl⟩
abbrev s_law : Stmt := top 12
def e_law : DE := ⟨⟨("law", none), "law", "law", defArgs s_law, defBody s_law, defScope s_law, [], []⟩, ["script", "src", "claim", "state", "rank", "one", "two", "told"], ["script"], [2], [], false, m_law⟩
theorem ok_law : e_law.Ok G := ⟨scopeB_ok (by kernel_rfl), chk_body (n := 60) (by kernel_rfl), rfl, rfl, fun _ _ _ _ _ _ us hl => match us, hl with | [_], _ => rfl⟩
def tb : List DE := [e_bit, e_pairs_of, e_mask_of, e_low, e_lowered, e_law_draw, e_law_source, e_law_low, e_law]
def fa : List He.Fa := [.glo "bit", .glo "pairs_of", .glo "mask_of", .glo "low", .glo "lowered", .glo "_law_draw", .glo "_law_source", .glo "_law_low", .glo "law", .int "WIDTH" 3, .free "int", .free "len", .free "min", .free "range", .free "sorted", .free "tuple"]
theorem txt : TxtOk G tb fa := txt_by (by kernel_rfl) (by kernel_rfl) (by kernel_rfl) (by kernel_rfl) (by
  unfold tb
  simp only [List.forall_mem_cons]
  exact ⟨ok_bit, ok_pairs_of, ok_mask_of, ok_low, ok_lowered, ok_law_draw, ok_law_source, ok_law_low, ok_law, fun _ h => nomatch h⟩)
abbrev R : PySem.W.OpenRow := PySem.W.OpenLaw.row PySem.Challenge.rw_towerduel_k03_claims_lowered
abbrev fn : List He.DefD := tb.map (·.d)
abbrev hk : PySem.W.Hook := He.hookD 5 fa fn
def ob (s : PySem.W.SharedT) : He.AlD := He.obsDG 5 fa fn (HandSHeadRun.getT s)
theorem ob_eq (s : PySem.W.SharedT) : ob s = hk.obs s.abs := He.obsDG_eq (HandSHeadRun.getT_eq s)
abbrev vw : Program := PySem.W.view R.prog [12]
abbrev loose : List Str := (["WIDTH", "bit", "pairs_of", "mask_of", "low", "lowered", "_law_draw", "_law_source", "_law_low"] : List Str)
theorem run (w : World) : HandSHeadRun.RunEq R vw hk ob 6000 loose w := by
  intro os
  kernel_rfl
end K03
set_option Elab.async false
set_option linter.all false
set_option maxRecDepth 100000
/-! K03L: the law of k03. -/
namespace K03
open PySem (Str PyData)
open PySem.W (Datum DatumOrd Tup)
open EL
open Enc (u)
abbrev tt : Tab := tabOf tb
theorem h_bit : tt "bit" = some PM.t_bit := by kernel_rfl
theorem h_pairs : tt "pairs_of" = some PM.t_pairs_of := by kernel_rfl
theorem h_low : tt "low" = some PM.t_low := by kernel_rfl
theorem h_mask : tt "mask_of" = some PM.t_mask_of := by kernel_rfl
theorem h_lowered : tt "lowered" = some (2, 2, m_lowered) := by kernel_rfl
theorem h_draw : tt "_law_draw" = some PM.t_law_draw := by kernel_rfl
theorem h_source : tt "_law_source" = some PM.t_law_source := by kernel_rfl
theorem h_llow : tt "_law_low" = some PM.t_law_low := by kernel_rfl
theorem h_law : tt "law" = some (1, 8, m_law) := by kernel_rfl

theorem lowered_eq {n : Nat} {hp : List EO} {ps : List (Nat × Nat)} (hps : ∀ p ∈ ps, p.1 ≤ 1000 ∧ p.2 ≤ 1000) {r : Nat} : phiT tt (n + 4) "lowered" [pairsU ps, .int r] hp = some (.ok (pairsU (pairsN (lowN (maskN ps) r))) hp) := by
  refine eq_of_wq ?_
  rw [wq_call h_lowered rfl]
  unfold m_lowered mkEnv
  have h1 : ∀ Q : U → List EO → Prop, wq (phiT tt (n + 3)) "mask_of" [pairsU ps] hp Q noE ↔ Q (.int (maskN ps)) hp := fun Q => wq_of_eq (mask_eq h_bit h_mask hps)
  have h2 : ∀ Q : U → List EO → Prop, wq (phiT tt (n + 3)) "low" [.int (maskN ps), .int r] hp Q noE ↔ Q (.int (lowN (maskN ps) r)) hp := fun Q => wq_of_eq (low_eq h_bit h_pairs h_low)
  have h3 : ∀ Q : U → List EO → Prop, wq (phiT tt (n + 3)) "pairs_of" [.int (lowN (maskN ps) r)] hp Q noE ↔ Q (pairsU (pairsN (lowN (maskN ps) r))) hp := fun Q => wq_of_eq (pairs_eq h_bit h_pairs)
  simp only [↓wp_sRet, ↓wp_eCall, ↓wp_aCons, ↓wp_aNil, ↓wp_eVar, List.map_cons, List.map_nil, List.cons_append, List.nil_append, List.length_cons, List.length_nil, Nat.reduceAdd, List.getElem?_cons_zero, List.getElem?_cons_succ, true_and, h1, h2, h3, and_self]

/-- each lowered pair once -/
def dd (r : Nat) : List (Nat × Nat) → List (Nat × Nat) → List (Nat × Nat)
  | acc, [] => acc
  | acc, p :: ps => dd r (if (p.1, min p.2 r) ∈ acc then acc else acc ++ [(p.1, min p.2 r)]) ps
theorem toP_inj {a b : Nat × Nat} (h : toP a = toP b) : a = b := by
  unfold toP at h
  cases a; cases b
  simp only [Prod.mk.injEq] at h ⊢
  omega
theorem inU_pU (p : Nat × Nat) (acc : List (Nat × Nat)) : inU (pU p) (acc.map pU) = some (decide (p ∈ acc)) := by
  have h := inU_enc (α := Int × Int) (by decide) (toP p) (acc.map toP)
  rw [List.map_map] at h
  refine h.trans (congrArg some ?_)
  rw [decide_eq_decide]
  constructor
  · intro h
    obtain ⟨q, hq, e⟩ := List.mem_map.mp h
    rw [← toP_inj e]; exact hq
  · exact fun h => List.mem_map.mpr ⟨p, h, rfl⟩
theorem dd_loop {n : Nat} {hp : List EO} {v0 : SV} {r : Nat} {Q : Fl → S → Prop} {E : Str → Str → U → List EO → Prop} : ∀ (ps acc : List (Nat × Nat)) (x y z : SV), acc.length + ps.length ≤ 1000 →
    (∀ x y z, Q .nx ⟨[v0, .val (.int r), .ol ((dd r acc ps).map pU), x, y, z], hp⟩) →
    wp (forL (fun u => seqT (tgTup 2 (tgsCons (tgName 3) (tgsCons (tgName 4) tgsNil)) u) (sSeq (sSet 5 (eTup (aCons (eVar 3) (aCons (eMM2 true (aCons (eVar 4) (aCons (eVar 1) aNil))) aNil))))
 (sIf (tV (eMem true (eVar 5) (mSlot 2)))
 (sExpr (eApp (mSlot 2) (eVar 5)))
 sNext))) (ps.map pU)) (phiT tt n) ⟨[v0, .val (.int r), .ol (acc.map pU), x, y, z], hp⟩ Q E
  | [], acc, x, y, z, _, h => wp_forL_nil.mpr (h x y z)
  | (s, t) :: ps, acc, x, y, z, hl, h => by
    simp only [List.length_cons] at hl
    have ih := dd_loop (n := n) (v0 := v0) (r := r) (Q := Q) (E := E) ps (if (s, min t r) ∈ acc then acc else acc ++ [(s, min t r)]) (.val (.int s)) (.val (.int t)) (.val (pU (s, min t r))) (by split <;> first | omega | (simp only [List.length_append, List.length_cons, List.length_nil]; omega)) h
    rw [List.map_cons, pU_eq]
    have e1 : ∀ w x y z : SV, memU ⟨[v0, w, .ol (acc.map pU), x, y, z], hp⟩ (.tup [.int s, .int ((min t r : Nat) : Int)]) (.sl 2) = some (decide ((s, min t r) ∈ acc)) := fun w x y z => inU_pU (s, min t r) acc
    simp only [↓wp_forL_cons, ↓wp_seqT, ↓wp_tgTup, ↓wp_tgsCons, ↓wp_tgsNil, ↓wp_tgName, ↓wp_sSeq, ↓wp_sSet, ↓wp_eTup, ↓wp_sIf, ↓wp_tV, ↓wp_eMem, ↓wp_mSlot, ↓wp_eVar, ↓wp_aCons, ↓wp_aNil, ↓wp_eMM2, mm2_min, List.set_cons_succ, List.set_cons_zero, List.length_cons, List.length_nil, Nat.reduceAdd, Nat.reduceLT, List.getElem?_cons_zero, List.getElem?_cons_succ, true_and, oB_some, e1, if_true, line, Nat.reduceLeDiff]
    by_cases hm : (s, min t r) ∈ acc
    · simp only [hm, if_true] at ih
      simp only [hm, decide_true, Bool.not_true, Bool.false_eq_true, if_false, ↓wp_sNext]
      exact ih
    · simp only [hm, if_false, List.map_append, List.map_cons, List.map_nil, pU_eq] at ih
      simp only [hm, decide_false, Bool.not_false, if_true, ↓wp_sExpr, ↓wp_eApp, ↓wp_mSlot, ↓wp_eVar, List.getElem?_cons_zero, List.getElem?_cons_succ, lstH, appS, setH, Option.isSome_some, true_and, List.length_map, line, show acc.length < 16777216 by omega, oB_some, List.set_cons_succ, List.set_cons_zero]
      exact ih
/-- ascending -/
def asc (ps : List (Nat × Nat)) : Bool := match ps with
  | [] => true
  | p :: r => r.all (fun q => decide (p.1 < q.1 ∨ (p.1 = q.1 ∧ p.2 ≤ q.2))) && asc r
theorem asc_pair : ∀ {ps : List (Nat × Nat)}, asc ps = true → (ps.map toP).Pairwise fun a b => DatumOrd.lt b a = false
  | [], _ => .nil
  | p :: r, h => by
    unfold asc at h
    rw [Bool.and_eq_true, List.all_eq_true] at h
    rw [List.map_cons, List.pairwise_cons]
    refine ⟨fun b hb => ?_, asc_pair h.2⟩
    obtain ⟨q, hq, rfl⟩ := List.mem_map.mp hb
    have z := of_decide_eq_true (h.1 q hq)
    show (if (toP q).1 = (toP p).1 then decide ((toP q).2 < (toP p).2) else decide ((toP q).1 < (toP p).1)) = false
    unfold toP
    simp only
    split <;> simp only [decide_eq_false_iff_not] <;> omega
theorem sort_pairs {ps : List (Nat × Nat)} (h : asc ps = true) (hl : ps.length ≤ 1000) : sortU (ps.map pU) = some (.lst (ps.map pU)) := by
  have q := sortU_sorted (α := Int × Int) (by decide) (as := ps.map toP) (by simp [line]; omega) (.inl (by rw [List.all_map, List.all_eq_true]; intro a _; rfl)) (asc_pair h)
  rw [List.map_map] at q
  exact q
theorem dd_len (r : Nat) : ∀ (ps acc : List (Nat × Nat)), (dd r acc ps).length ≤ acc.length + ps.length
  | [], acc => Nat.le_refl _
  | p :: ps, acc => by
    unfold dd
    have := dd_len r ps (if (p.1, min p.2 r) ∈ acc then acc else acc ++ [(p.1, min p.2 r)])
    refine Nat.le_trans this ?_
    split <;> simp only [List.length_append, List.length_cons, List.length_nil] <;> omega
theorem llow_eq {n : Nat} {hp : List EO} {ps : List (Nat × Nat)} {r : Nat} (hl : ps.length ≤ 1000) (ha : asc (dd r [] ps) = true) : phiT tt (n + 1) "_law_low" [pairsU ps, .int r] hp = some (.ok (pairsU (dd r [] ps)) hp) := by
  refine eq_of_wq ?_
  rw [wq_call h_llow rfl]
  unfold PM.m_law_low mkEnv pairsU
  simp only [↓wp_sSeq, ↓wp_sOwn, ↓wp_oLst, ↓wp_aNil, ↓wp_sFor, ↓wp_iItems, ↓wp_eVar, itemsU, oB_some, List.map_cons, List.map_nil, List.cons_append, List.nil_append, List.replicate, List.set_cons_succ, List.set_cons_zero, List.length_cons, List.length_nil, Nat.reduceAdd, Nat.reduceLT, Nat.reduceSub, List.getElem?_cons_zero, List.getElem?_cons_succ, true_and, Nat.zero_le]
  refine dd_loop ps [] .no .no .no (by simpa using hl) fun x y z => ?_
  have e1 : ∀ w x y z v : SV, sortedU ⟨[w, x, .ol ((dd r [] ps).map pU), y, z, v], hp⟩ (.sl 2) = some (.lst ((dd r [] ps).map pU)) := fun w x y z v => sort_pairs ha (by have := dd_len r ps []; simp at this; omega)
  simp only [↓wp_sRet, ↓wp_eTupleOf, ↓wp_hdl, ↓wp_eSorted, ↓wp_mSlot, List.getElem?_cons_zero, List.getElem?_cons_succ, e1, oB_some, tupleU, seqOf, and_self]
def addOk : Bool := grid.all fun p => (List.range (2 ^ plc p)).all fun m => decide (pairsN (m + 2 ^ plc p) = pairsN m ++ [p])
theorem addOk_true : addOk = true := by kernel_rfl
theorem pairs_add {p : Nat × Nat} (hp : p ∈ grid) {m : Nat} (hm : m < 2 ^ plc p) : pairsN (m + 2 ^ plc p) = pairsN m ++ [p] := by
  have h := addOk_true
  unfold addOk at h
  rw [List.all_eq_true] at h
  have h2 := h p hp
  rw [List.all_eq_true] at h2
  exact of_decide_eq_true (h2 m (List.mem_range.mpr hm))
theorem in_grid {s r : Nat} (hs : s < 3) (hr : r < 3) : (s, r) ∈ grid := by
  unfold grid
  rw [List.mem_flatMap]
  exact ⟨s, List.mem_range.mpr hs, List.mem_map.mpr ⟨r, List.mem_range.mpr hr, rfl⟩⟩
theorem pairs_len (m : Nat) : (pairsN m).length ≤ 9 := List.length_filter_le _ _
abbrev bodyI : M Fl := sIf (tV (eCop .eq (eCall "_law_draw" 2 (aCons (eVar 1) (aCons (eC (.int 2)) aNil))) (eC (.int 0))))
 (sExpr (eApp (mSlot 2) (eTup (aCons (eVar 3) (aCons (eVar 4) aNil)))))
 sNext
abbrev nats (r k : Nat) : List U := (List.range' r k).map fun j : Nat => U.int (j : Int)
theorem inner {n : Nat} {v0 : SV} {c : Int} {s : Nat} (hs : s < 3) {tl : List SV} {Q : Fl → S → Prop} {E : Str → Str → U → List EO → Prop} : ∀ (k r m : Nat) (a b : Int) (x : SV), r + k = 3 → m < 2 ^ plc (s, r) →
    (∀ (m' : Nat) (a b : Int) (x : SV), m' < 2 ^ plc (s, 3) → Q .nx ⟨v0 :: .val (.ref 0) :: .ol ((pairsN m').map pU) :: .val (.int s) :: x :: tl, [srcO a b c]⟩) →
    wp (forL (fun u => seqT (tgName 4 u) bodyI) (nats r k)) (phiT tt (n + 1)) ⟨v0 :: .val (.ref 0) :: .ol ((pairsN m).map pU) :: .val (.int s) :: x :: tl, [srcO a b c]⟩ Q E
  | 0, r, m, a, b, x, hk, hm, h => wp_forL_nil.mpr (h m a b x (by rw [show r = 3 by omega] at hm; exact hm))
  | k + 1, r, m, a, b, x, hk, hm, h => by
    have hr : r < 3 := by omega
    have e : nats r (k + 1) = .int r :: nats (r + 1) k := rfl
    have hplc : plc (s, r + 1) = plc (s, r) + 1 := rfl
    have ih1 := fun (a b : Int) => inner hs (n := n) (v0 := v0) (c := c) (tl := tl) (Q := Q) (E := E) k (r + 1) (m + 2 ^ plc (s, r)) a b (.val (.int r)) (by omega) (by rw [hplc, Nat.pow_succ]; omega) h
    have ih2 := fun (a b : Int) => inner hs (n := n) (v0 := v0) (c := c) (tl := tl) (Q := Q) (E := E) k (r + 1) m a b (.val (.int r)) (by omega) (by rw [hplc, Nat.pow_succ]; omega) h
    rw [pairs_add (in_grid hs hr) hm, List.map_append, List.map_cons, List.map_nil, pU_eq] at ih1
    rw [e]
    simp only [↓wp_forL_cons, ↓wp_seqT, ↓wp_tgName, ↓wp_sIf, ↓wp_tV, ↓wp_eCop, ↓wp_eCall, ↓wp_aCons, ↓wp_aNil, ↓wp_eC, ↓wp_eVar, List.set_cons_succ, List.set_cons_zero, List.length_cons, Nat.reduceAdd, List.getElem?_cons_zero, List.getElem?_cons_succ, List.length_nil, true_and]
    refine ⟨by omega, draw h_draw (by decide) (by decide) fun v a' b' _ _ => ?_⟩
    have e0 : cop .eq (.int v) (.int 0) = some (decide (v = 0)) := cop_eq_enc (α := Int) (by decide) v 0
    simp only [e0, oB_some]
    have hl := pairs_len m
    by_cases hv : v = 0
    · simp only [hv, decide_true, if_true, ↓wp_sExpr, ↓wp_eApp, ↓wp_mSlot, ↓wp_eTup, ↓wp_aCons, ↓wp_aNil, ↓wp_eVar, List.getElem?_cons_zero, List.getElem?_cons_succ, lstH, appS, setH, Option.isSome_some, true_and, List.length_map, line, show (pairsN m).length < 16777216 by omega, oB_some, List.set_cons_succ, List.set_cons_zero, List.length_cons, List.length_nil, Nat.reduceAdd, Nat.reduceLeDiff]
      exact ih1 a' b'
    · simp only [hv, decide_false, Bool.false_eq_true, if_false, ↓wp_sNext]
      exact ih2 a' b'
theorem outer {n : Nat} {v0 : SV} {c : Int} {tl : List SV} {Q : Fl → S → Prop} {E : Str → Str → U → List EO → Prop} : ∀ (k s m : Nat) (a b : Int) (x y : SV), s + k = 3 → m < 2 ^ plc (s, 0) →
    (∀ (m' : Nat) (a b : Int) (x y : SV), m' < 512 → Q .nx ⟨v0 :: .val (.ref 0) :: .ol ((pairsN m').map pU) :: x :: y :: tl, [srcO a b c]⟩) →
    wp (forL (fun u => seqT (tgName 3 u) (sFor (iRange (aCons (eC (.int 3)) aNil)) (tgName 4) bodyI)) (nats s k)) (phiT tt (n + 1)) ⟨v0 :: .val (.ref 0) :: .ol ((pairsN m).map pU) :: x :: y :: tl, [srcO a b c]⟩ Q E
  | 0, s, m, a, b, x, y, hk, hm, h => wp_forL_nil.mpr (h m a b x y (by rw [show s = 3 by omega] at hm; exact hm))
  | k + 1, s, m, a, b, x, y, hk, hm, h => by
    have hs : s < 3 := by omega
    have e : nats s (k + 1) = .int s :: nats (s + 1) k := rfl
    have e3 : rng1 [.int 3] = some (nats 0 3) := rfl
    rw [e]
    simp only [↓wp_forL_cons, ↓wp_seqT, ↓wp_tgName, ↓wp_sFor, ↓wp_iRange, ↓wp_aCons, ↓wp_aNil, ↓wp_eC, e3, oB_some, List.set_cons_succ, List.set_cons_zero, List.length_cons]
    refine ⟨by omega, inner hs 3 0 m a b y rfl hm fun m' a' b' x' hm' => ?_⟩
    exact outer k (s + 1) m' a' b' (.val (.int s)) x' (by omega) hm' h
/-- what the law asks, of numbers -/
def lawB (m one two : Nat) : Bool :=
  let a := pairsN (lowN (maskN (pairsN m)) one)
  decide (a = dd one [] (pairsN m)) && asc (dd one [] (pairsN m)) && decide (pairsN (lowN (maskN a) two) = pairsN (lowN (maskN (pairsN m)) (min one two)))
def lawAll : Bool := (List.range 512).all fun m => (List.range 3).all fun i => (List.range 3).all fun j => lawB m i j
theorem lawAll_true : lawAll = true := by kernel_rfl
end K03
set_option Elab.async false
set_option linter.all false
set_option maxRecDepth 100000
/-! K03F: the law of k03, its run. -/
namespace K03
open PySem (Str PyData)
open PySem.W (Datum DatumOrd Tup)
open EL
open Enc (u)
theorem law_num {m one two : Nat} (hm : m < 512) (h1 : one < 3) (h2 : two < 3) : pairsN (lowN (maskN (pairsN m)) one) = dd one [] (pairsN m) ∧ asc (dd one [] (pairsN m)) = true ∧
    pairsN (lowN (maskN (pairsN (lowN (maskN (pairsN m)) one))) two) = pairsN (lowN (maskN (pairsN m)) (min one two)) := by
  have h := lawAll_true
  unfold lawAll at h
  simp only [List.all_eq_true, List.mem_range] at h
  have q := h m hm one h1 two h2
  unfold lawB at q
  simp only [Bool.and_eq_true, decide_eq_true_eq] at q
  exact ⟨q.1.1, q.1.2, q.2⟩
theorem pairs_1000 {m : Nat} : ∀ p ∈ pairsN m, p.1 ≤ 1000 ∧ p.2 ≤ 1000 := fun p hp => by have := pairs_small hp; omega
theorem eq_pairs (as bs : List (Nat × Nat)) : cop .eq (pairsU as) (pairsU bs) = some (decide (as = bs)) := by
  have h := cop_eq_enc (α := Tup (Int × Int)) (by decide) ⟨as.map toP⟩ ⟨bs.map toP⟩
  have e : ∀ l : List (Nat × Nat), u (Tup.mk (l.map toP)) = pairsU l := fun l => by
    show U.tup ((l.map toP).map u) = U.tup (l.map pU)
    rw [List.map_map]; rfl
  rw [e, e] at h
  rw [h]
  congr 1
  rw [decide_eq_decide]
  constructor
  · intro z
    have z := congrArg Tup.items z
    exact List.map_inj_right (fun a b q => toP_inj q) |>.mp z
  · exact fun z => by rw [z]
theorem ne_pairs (as bs : List (Nat × Nat)) : cop .ne (pairsU as) (pairsU bs) = some (!decide (as = bs)) := by
  have h := eq_pairs as bs
  show (cop .eq (pairsU as) (pairsU bs)).map (!·) = _
  rw [h]; rfl
theorem law_run {n : Nat} {ns : List Int} (hl : ns.length ≤ 63) : wq (phiT tt (n + 6)) "law" [.scr ns] [] (fun x _ => x = .bl true) noE := by
  rw [wq_call h_law rfl]
  unfold m_law mkEnv
  simp only [↓wp_sSeq, ↓wp_sSet, ↓wp_eCall, ↓wp_aCons, ↓wp_aNil, ↓wp_eVar, ↓wp_eC, List.map_cons, List.map_nil, List.cons_append, List.nil_append, List.replicate, List.set_cons_succ, List.set_cons_zero, List.length_cons, List.length_nil, Nat.reduceAdd, Nat.reduceLT, Nat.reduceSub, List.getElem?_cons_zero, List.getElem?_cons_succ, true_and]
  refine source h_source (by omega) fun a b c => ?_
  have e3 : rng1 [.int 3] = some (nats 0 3) := rfl
  simp only [↓wp_sOwn, ↓wp_oLst, ↓wp_aNil, ↓wp_sFor, ↓wp_iRange, ↓wp_aCons, ↓wp_eC, e3, oB_some, List.set_cons_succ, List.set_cons_zero, List.length_cons, List.length_nil, Nat.reduceAdd, Nat.reduceLT, true_and, Nat.zero_le]
  refine outer 3 0 0 a b .no .no rfl (by decide) fun m a b x y hm => ?_
  simp only [↓wp_sSeq, ↓wp_sSet, ↓wp_eCall, ↓wp_aCons, ↓wp_aNil, ↓wp_eVar, ↓wp_eC, List.getElem?_cons_zero, List.getElem?_cons_succ, List.set_cons_succ, List.set_cons_zero, List.length_cons, List.length_nil, Nat.reduceAdd, Nat.reduceLT, true_and]
  refine draw h_draw (by decide) (by decide) fun one a b h0 h1 => ?_
  refine draw h_draw (by decide) (by decide) fun two a b h2 h3 => ?_
  obtain ⟨one, rfl⟩ := Int.eq_ofNat_of_zero_le h0
  obtain ⟨two, rfl⟩ := Int.eq_ofNat_of_zero_le h2
  have p1 : one < 3 := by omega
  have p2 : two < 3 := by omega
  obtain ⟨q1, q2, q3⟩ := law_num hm p1 p2
  have w1 : ∀ (hp : List EO) (Q : U → List EO → Prop), wq (phiT tt (n + 5)) "lowered" [pairsU (pairsN m), .int one] hp Q noE ↔ Q (pairsU (pairsN (lowN (maskN (pairsN m)) one))) hp := fun hp Q => wq_of_eq (lowered_eq pairs_1000)
  have w2 : ∀ (hp : List EO) (Q : U → List EO → Prop), wq (phiT tt (n + 5)) "_law_low" [pairsU (pairsN m), .int one] hp Q noE ↔ Q (pairsU (pairsN (lowN (maskN (pairsN m)) one))) hp := fun hp Q => by
    rw [q1]; exact wq_of_eq (llow_eq (by have := pairs_len m; omega) q2)
  have w3 : ∀ (hp : List EO) (Q : U → List EO → Prop), wq (phiT tt (n + 5)) "lowered" [pairsU (pairsN (lowN (maskN (pairsN m)) one)), .int two] hp Q noE ↔ Q (pairsU (pairsN (lowN (maskN (pairsN m)) (min one two)))) hp := fun hp Q => by
    rw [← q3]; exact wq_of_eq (lowered_eq pairs_1000)
  have w4 : ∀ (hp : List EO) (Q : U → List EO → Prop), wq (phiT tt (n + 5)) "lowered" [pairsU (pairsN m), .int ((min one two : Nat) : Int)] hp Q noE ↔ Q (pairsU (pairsN (lowN (maskN (pairsN m)) (min one two)))) hp := fun hp Q => wq_of_eq (lowered_eq pairs_1000)
  have tu : ∀ (v0 v1 x y v5 v6 v7 : SV) (hp : List EO), tupleU ⟨[v0, v1, .ol ((pairsN m).map pU), x, y, v5, v6, v7], hp⟩ (.sl 2) = some (pairsU (pairsN m)) := fun _ _ _ _ _ _ _ _ => rfl
  simp only [↓wp_sSeq, ↓wp_sSet, ↓wp_eCall, ↓wp_aCons, ↓wp_aNil, ↓wp_eVar, ↓wp_eC, ↓wp_eTupleOf, ↓wp_mSlot, ↓wp_sIf, ↓wp_tV, ↓wp_eCop, ↓wp_sRet, ↓wp_sNext, ↓wp_eMM2, mm2_min, List.getElem?_cons_zero, List.getElem?_cons_succ, List.set_cons_succ, List.set_cons_zero, List.length_cons, List.length_nil, Nat.reduceAdd, Nat.reduceLT, true_and, tu, oB_some, w1, w2, w3, w4, ne_pairs, eq_pairs, decide_true, Bool.not_true, Bool.false_eq_true, if_false]
end K03
set_option Elab.async false
set_option linter.all false
set_option maxRecDepth 100000
set_option maxHeartbeats 0
namespace K03
open PySem PySem.Spec PyProof.Rows L2 EL
theorem run_all {ns : List Int} (hl : ns.length ≤ 63) : ∃ hp, phi tb 10 "law" [.scr ns] [] = some (.ok (.bl true) hp) := by
  rw [phi_eq]
  have h := law_run (n := 4) hl
  rw [wq_def] at h
  unfold wq0 at h
  cases e : phiT tt 10 "law" [.scr ns] [] with
  | none => rw [e] at h; exact h.elim
  | some r => rw [e] at h; cases r with
    | ok x s' => exact ⟨s', by rw [show x = .bl true from h]⟩
    | ex c f v s' => exact h.elim
end K03
open PySem PySem.W PySem.Calls PyProof.Rows
theorem PySem.Challenge.cw_towerduel_k03_claims_lowered_holds : PySem.Challenge.rw_towerduel_k03_claims_lowered.Holds := by
  w_on; o_law
  refine HandSHeadRun.head_any (r := OpenLaw.row PySem.Challenge.rw_towerduel_k03_claims_lowered) (q := K03.vw) (H := K03.hk) (ob := K03.ob) (M := 6000) (loose := K03.loose) (d := HandSHeadRun.topDef (OpenLaw.row PySem.Challenge.rw_towerduel_k03_claims_lowered).prog 12) (kwd := []) K03.ob_eq
    (by kernel_rfl) (fun s => by kernel_rfl) K03.run (by kernel_rfl) (by kernel_rfl) (by kernel_rfl) (by rfl) (by first | assumption | decide +kernel) (by decide +kernel) ⟨rfl, rfl, rfl, rfl, rfl, by decide +kernel⟩ ?hw ?hc
  case hw => w_witness2
  case hc =>
    refine EL.walk_E (l := PySem.Challenge.rw_towerduel_k03_claims_lowered) (n := 63) (k := 10) (x := "script") (CX := fun w => L2.CX (PySem.Challenge.rw_towerduel_k03_claims_lowered).prog w) rfl (by decide) (by kernel_rfl) ⟨rfl, by decide, by decide⟩ ?F (fun w H s e s' => EL.cx_no)
    intro w mg fa h Y G hmg0
    obtain ⟨K, KX, c⟩ := Y
    have hmg : mg ("law" : PySem.Str) = some (.ref fa) := by
      have e : (HandSHeadRun.topDef (OpenLaw.row PySem.Challenge.rw_towerduel_k03_claims_lowered).prog 12).name = ("law" : PySem.Str) := by kernel_rfl
      rw [← e]
      exact hmg0
    obtain ⟨fd, hb, hF⟩ := EL.law_facts (P := (PySem.Challenge.rw_towerduel_k03_claims_lowered).prog) (w := w) (e := K03.e_law) K03.txt KX G c (by simp [K03.tb]) rfl (by simp [K03.fa]) hmg rfl 9
    refine ⟨K, fd, _, KX, hb, fun H a ns hl _ hS => ?_, hF⟩
    obtain ⟨hp, q⟩ := K03.run_all hl
    exact EL.sp_law hS q
