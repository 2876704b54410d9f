import PyProof.Rows.All
import Wide.All
import OpenK.AllK
import Wide.FinOn
import HandS.ForMost
import HandS.ForExc
import HandS.Defaults
import HandS.IsInst
import HandS.TupAny
import HandS.Flow
import HandS.Wide
import HandS.Deep
import HandS.WideBits
import HandS.TupLe
import HandS.TryMany
import KE.GoesEnum
import HandS.Zip
import HandS.ExcField
import HandS.ExcIs
import KE.KExcIs
import HandS.NoneIn
import HandS.Style
import HandS.RaiseMore
import PyProof.ReprRoads
import HandS.TupMul
import HandS.BoundList
import HandS.ExcSuper
import HandS.ExcOwn
import KE.KSuper
import HandS.Ends
import HandS.EndBits
import KE.DataAny
import PyProof.P3In
import HandS.More
import HandS.HeadHook3
import HandS.Text
import PyProof.ReprBulk
import PyProof.Rows.StrJoinMade
import Open.SpecLaws
import KE.OsGo
import PySem.Challenge.RW_putinonce_k73_any_values_as_scripts
set_option Elab.async false
set_option linter.all false
set_option maxRecDepth 100000
set_option maxHeartbeats 1000000
/-! The Sim layer, part 0: values by value, a store of mutable objects, and how they stand in the abstract heap. -/
namespace Sm
open PySem L2

/-- a value by value; loc l: the l-th object of the store -/
inductive Val where
  | non | bl (b : Bool) | int (i : Int) | str (s : Str) | tup (xs : List Val) | kt (xs : List Val) | loc (l : Nat) | fn (x : Str) | cl (x : Str) | ty (n : String) | scr (ns : List Int) | exc (x : Str) (fs : List (Str × Val))
instance : Inhabited Val := ⟨.non⟩

/-- an object of the store -/
inductive Ob where
  | lst (xs : List Val) | dK (kvs : List (Key × Val)) | dT (kvs : List (List Key × Val)) | ins (c : Str) (al : List Str) (fs : List (Str × Val))
instance : Inhabited Ob := ⟨.lst []⟩
abbrev Sto := List Ob
/-- an exception: the name of its class, its fields -/
abbrev Xn := Str × List (Str × Val)
abbrev Env := List (Option Val)
/-- what an expression comes to -/
inductive R (α : Type) where
  | ok (a : α) (st : Sto) | err (x : Xn) (st : Sto) | stuck
/-- what a statement comes to -/
inductive SR where
  | nx (e : Env) (st : Sto) | rt (v : Val) (st : Sto) | bk (e : Env) (st : Sto) | ct (e : Env) (st : Sto) | er (x : Xn) (e : Env) (st : Sto) | stuck
abbrev Ex := Env → Sto → R Val
abbrev Tx := Env → Sto → R Bool
abbrev Ax := Env → Sto → R (List Val)
abbrev Sx := Env → Sto → SR
/-- what a def comes to -/
abbrev Fx := List Val → Sto → R Val

def R.bind {α β : Type} (r : R α) (f : α → Sto → R β) : R β := match r with
  | .ok a st => f a st
  | .err x st => .err x st
  | .stuck => .stuck
@[simp] theorem R.bind_ok {α β : Type} (a : α) (st : Sto) (f : α → Sto → R β) : (R.ok a st).bind f = f a st := rfl
@[simp] theorem R.bind_err {α β : Type} (x : Xn) (st : Sto) (f : α → Sto → R β) : (R.err x st).bind f = .err x st := rfl
@[simp] theorem R.bind_stuck {α β : Type} (f : α → Sto → R β) : (R.stuck : R α).bind f = .stuck := rfl
/-- in a statement -/
def R.to {α : Type} (r : R α) (e : Env) (f : α → Sto → SR) : SR := match r with
  | .ok a st => f a st
  | .err x st => .er x e st
  | .stuck => .stuck
@[simp] theorem R.to_ok {α : Type} (a : α) (st : Sto) (e : Env) (f : α → Sto → SR) : (R.ok a st).to e f = f a st := rfl
@[simp] theorem R.to_err {α : Type} (x : Xn) (st : Sto) (e : Env) (f : α → Sto → SR) : (R.err x st : R α).to e f = .er x e st := rfl
@[simp] theorem R.to_stuck {α : Type} (e : Env) (f : α → Sto → SR) : (R.stuck : R α).to e f = .stuck := rfl

/-! ### how they stand -/
section
variable (K : PySem.W.Frag) (mg : Str → Option Value)
/-- a list that is never written: frozen, or of the written part -/
def SqF (H : Hp) (a : Addr) (xs : List V) : Prop := (∃ o, H a = some (.frz o (.lst xs))) ∨
    ∃ (o : Obj) (its : Array Value) (n : Nat), K.lookup a = some o ∧ o.cls = .type "list" ∧ o.dict = none ∧ o.data = .seq its n ∧ its.size ≤ sizeLine ∧ Vals xs its.toList
/-- a tuple of the written part -/
def SqK (a : Addr) (xs : List V) : Prop := ∃ (o : Obj) (its : Array Value) (n : Nat), K.lookup a = some o ∧ o.cls = .type "tuple" ∧ o.data = .seq its n ∧ its.size ≤ sizeLine ∧ Vals xs its.toList
mutual
def RV (ρ : List Addr) (H : Hp) : Val → V → Prop
  | .non, v => v = .non
  | .bl b, v => v = .bl b
  | .int i, v => v = .int i
  | .str s, v => v = .str s
  | .tup xs, v => ∃ a vs, v = .ref a ∧ H a = some (.tup vs) ∧ RVs ρ H xs vs
  | .kt xs, v => ∃ a vs, v = .ref a ∧ SqK K a vs ∧ RVs ρ H xs vs
  | .loc l, v => ∃ a, v = .ref a ∧ ρ[l]? = some a
  | .fn x, v => ∃ a, v = .ref a ∧ mg x = some (.ref a)
  | .cl x, v => ∃ a, v = .ref a ∧ mg x = some (.ref a)
  | .ty n, v => v = .ty n
  | .scr ns, v => ∃ a, v = .ref a ∧ SqF K H a (ns.map V.int)
  | .exc _ _, _ => False
def RVs (ρ : List Addr) (H : Hp) : List Val → List V → Prop
  | [], vs => vs = []
  | x :: xs, vs => ∃ v r, vs = v :: r ∧ RV ρ H x v ∧ RVs ρ H xs r
end
/-- pairs of a key and a value -/
def RPs {κ : Type} (ρ : List Addr) (H : Hp) : List (κ × Val) → List (κ × V) → Prop
  | [], ps => ps = []
  | x :: xs, ps => ∃ v r, ps = (x.1, v) :: r ∧ RV K mg ρ H x.2 v ∧ RPs ρ H xs r
/-- an object of the store at a -/
def RO (ρ : List Addr) (H : Hp) : Ob → Addr → Prop
  | .lst xs, a => ∃ vs, H a = some (.lst vs) ∧ RVs K mg ρ H xs vs
  | .dK kvs, a => ∃ ps, H a = some (.dK ps) ∧ RPs K mg ρ H kvs ps
  | .dT kvs, a => ∃ ps, H a = some (.dT ps) ∧ RPs K mg ρ H kvs ps
  | .ins c al fs, a => ∃ C dx ps, mg c = some (.ref C) ∧ Cls K C ∧ (∀ f ∈ al, NoAttr K C f) ∧ H a = some (.ins C dx ps) ∧ RPs K mg ρ H fs ps ∧ ∀ p ∈ fs, p.1 ∈ al
/-- the store -/
structure RS (ρ : List Addr) (H : Hp) (st : Sto) : Prop where
  len : ρ.length = st.length
  nd : ρ.Nodup
  ob : ∀ (l : Nat) (a : Addr) (o : Ob), ρ[l]? = some a → st[l]? = some o → RO K mg ρ H o a
/-- what grows: new objects, what is never written stays -/
structure Ext (ρ : List Addr) (H : Hp) (ρ' : List Addr) (H' : Hp) : Prop where
  pre : ρ <+: ρ'
  tups : ∀ a xs, H a = some (.tup xs) → H' a = some (.tup xs)
  frzs : ∀ a o u, H a = some (.frz o u) → H' a = some (.frz o u)
  xds : ∀ a ps, H a = some (.xd ps) → H' a = some (.xd ps)
/-- what may be written -/
def Wr (u : HO) : Prop := (∀ xs, u ≠ .tup xs) ∧ (∀ o v, u ≠ .frz o v) ∧ ∀ ps, u ≠ .xd ps
/-- an exception that has been raised: its class, its own dict -/
def RX (ρ : List Addr) (H : Hp) (x : Xn) (cls : Value) (d : Option Addr) : Prop :=
  ∃ C, mg x.1 = some (.ref C) ∧ cls = .ref C ∧ ((x.2 = [] ∧ d = none) ∨ ∃ dd ps, d = some dd ∧ H dd = some (.xd ps) ∧ RPs K mg ρ H x.2 ps)
end

section
variable {K : PySem.W.Frag} {mg : Str → Option Value} {ρ ρ' ρ'' : List Addr} {H H' H'' : Hp} {st : Sto}
theorem Ext.refl : Ext ρ H ρ H := ⟨List.prefix_refl _, fun _ _ h => h, fun _ _ _ h => h, fun _ _ h => h⟩
theorem Ext.trans (a : Ext ρ H ρ' H') (b : Ext ρ' H' ρ'' H'') : Ext ρ H ρ'' H'' :=
  ⟨a.pre.trans b.pre, fun c xs h => b.tups c xs (a.tups c xs h), fun c o u h => b.frzs c o u (a.frzs c o u h), fun c o h => b.xds c o (a.xds c o h)⟩
theorem Ext.at (e : Ext ρ H ρ' H') {l : Nat} {a : Addr} (h : ρ[l]? = some a) : ρ'[l]? = some a := by
  obtain ⟨t, rfl⟩ := e.pre
  rw [List.getElem?_append_left (List.getElem?_eq_some_iff.mp h).1]; exact h
/-- a new thing -/
theorem Ext.new {p : Addr} {o : HO} (h : H p = none) : Ext ρ H ρ (upd H p o) :=
  ⟨List.prefix_refl _, fun a xs e => by rw [upd_ne (ne_of_none e h)]; exact e, fun a o u e => by rw [upd_ne (ne_of_none e h)]; exact e, fun a xs e => by rw [upd_ne (ne_of_none e h)]; exact e⟩
theorem Ext.snoc {p : Addr} {o : HO} (h : H p = none) : Ext ρ H (ρ ++ [p]) (upd H p o) :=
  ⟨List.prefix_append _ _, (Ext.new (ρ := ρ) h).tups, (Ext.new (ρ := ρ) h).frzs, (Ext.new (ρ := ρ) h).xds⟩
/-- a written thing -/
theorem Ext.set {p : Addr} {o u : HO} (h : H p = some u) (w : Wr u) : Ext ρ H ρ (upd H p o) :=
  ⟨List.prefix_refl _, fun a xs e => by
    rw [upd_ne (by rintro rfl; rw [h] at e; exact w.1 _ (Option.some.inj e))]; exact e, fun a o v e => by
    rw [upd_ne (by rintro rfl; rw [h] at e; exact w.2.1 _ _ (Option.some.inj e))]; exact e, fun a xs e => by
    rw [upd_ne (by rintro rfl; rw [h] at e; exact w.2.2 _ (Option.some.inj e))]; exact e⟩
theorem Ext.sqT (e : Ext ρ H ρ' H') {a : Addr} {xs : List V} (h : SqT K H a xs) : SqT K H' a xs := by
  rcases h with (h | ⟨o, h⟩) | h
  · exact .inl (.inl (e.tups _ _ h))
  · exact .inl (.inr ⟨o, e.frzs _ _ _ h⟩)
  · exact .inr h
theorem Ext.sqF (e : Ext ρ H ρ' H') {a : Addr} {xs : List V} (h : SqF K H a xs) : SqF K H' a xs := by
  rcases h with ⟨o, h⟩ | h
  · exact .inl ⟨o, e.frzs _ _ _ h⟩
  · exact .inr h
theorem SqF.sq {a : Addr} {xs : List V} (h : SqF K H a xs) : SqL K H a xs := by
  rcases h with ⟨o, h⟩ | h
  · exact .inl (.inr ⟨o, h⟩)
  · exact .inr h
mutual
theorem RV.mono (e : Ext ρ H ρ' H') : ∀ {x : Val} {v : V}, RV K mg ρ H x v → RV K mg ρ' H' x v
  | .non, _, h => by simpa [RV] using h
  | .bl _, _, h => by simpa [RV] using h
  | .int _, _, h => by simpa [RV] using h
  | .str _, _, h => by simpa [RV] using h
  | .tup xs, v, h => by
    rw [RV] at h ⊢
    obtain ⟨a, vs, rfl, h1, h2⟩ := h
    exact ⟨a, vs, rfl, e.tups _ _ h1, RVs.mono e h2⟩
  | .kt xs, v, h => by
    rw [RV] at h ⊢
    obtain ⟨a, vs, rfl, h1, h2⟩ := h
    exact ⟨a, vs, rfl, h1, RVs.mono e h2⟩
  | .loc l, v, h => by
    rw [RV] at h ⊢
    obtain ⟨a, rfl, h1⟩ := h
    exact ⟨a, rfl, e.at h1⟩
  | .fn _, _, h => by simpa [RV] using h
  | .cl _, _, h => by simpa [RV] using h
  | .ty _, _, h => by simpa [RV] using h
  | .scr _, _, h => by
    rw [RV] at h ⊢
    obtain ⟨a, rfl, h1⟩ := h
    exact ⟨a, rfl, e.sqF h1⟩
  | .exc _ _, _, h => by simp [RV] at h
theorem RVs.mono (e : Ext ρ H ρ' H') : ∀ {xs : List Val} {vs : List V}, RVs K mg ρ H xs vs → RVs K mg ρ' H' xs vs
  | [], _, h => by simpa [RVs] using h
  | x :: xs, vs, h => by
    rw [RVs] at h ⊢
    obtain ⟨v, r, rfl, h1, h2⟩ := h
    exact ⟨v, r, rfl, RV.mono e h1, RVs.mono e h2⟩
end
theorem RPs.mono {κ : Type} (e : Ext ρ H ρ' H') : ∀ {xs : List (κ × Val)} {vs : List (κ × V)}, RPs K mg ρ H xs vs → RPs K mg ρ' H' xs vs
  | [], _, h => by simpa [RPs] using h
  | x :: xs, vs, h => by
    rw [RPs] at h ⊢
    obtain ⟨v, r, rfl, h1, h2⟩ := h
    exact ⟨v, r, rfl, RV.mono e h1, RPs.mono e h2⟩

/-! ### lists of values -/
theorem RVs.length : ∀ {xs : List Val} {vs : List V}, RVs K mg ρ H xs vs → vs.length = xs.length
  | [], _, h => by rw [RVs] at h; subst h; rfl
  | x :: xs, vs, h => by
    rw [RVs] at h
    obtain ⟨v, r, rfl, h1, h2⟩ := h
    simp [RVs.length h2]
theorem RVs.nil : RVs K mg ρ H [] [] := by rw [RVs]
theorem RVs.cons {x : Val} {v : V} {xs : List Val} {vs : List V} (h : RV K mg ρ H x v) (t : RVs K mg ρ H xs vs) : RVs K mg ρ H (x :: xs) (v :: vs) := by
  rw [RVs]; exact ⟨v, vs, rfl, h, t⟩
theorem RVs.get : ∀ {xs : List Val} {vs : List V} {i : Nat} {x : Val}, RVs K mg ρ H xs vs → xs[i]? = some x → ∃ v, vs[i]? = some v ∧ RV K mg ρ H x v
  | [], _, _, _, _, e => by simp at e
  | y :: xs, vs, i, x, h, e => by
    rw [RVs] at h
    obtain ⟨v, r, rfl, h1, h2⟩ := h
    cases i with
    | zero => simp at e; subst e; exact ⟨v, by simp, h1⟩
    | succ i => simpa using RVs.get (i := i) h2 (by simpa using e)
theorem RVs.set : ∀ {xs : List Val} {vs : List V} (i : Nat) {x : Val} {v : V}, RVs K mg ρ H xs vs → RV K mg ρ H x v → RVs K mg ρ H (xs.set i x) (vs.set i v)
  | [], vs, i, _, _, h, _ => by rw [RVs] at h; subst h; simp [RVs]
  | y :: xs, vs, i, x, v, h, hv => by
    rw [RVs] at h
    obtain ⟨w, r, rfl, h1, h2⟩ := h
    cases i with
    | zero => exact .cons hv h2
    | succ i => exact .cons h1 (RVs.set i h2 hv)
theorem RVs.append : ∀ {xs ys : List Val} {vs ws : List V}, RVs K mg ρ H xs vs → RVs K mg ρ H ys ws → RVs K mg ρ H (xs ++ ys) (vs ++ ws)
  | [], _, _, _, h, t => by rw [RVs] at h; subst h; exact t
  | x :: xs, _, _, _, h, t => by
    rw [RVs] at h
    obtain ⟨w, r, rfl, h1, h2⟩ := h
    exact .cons h1 (RVs.append h2 t)
theorem RVs.take : ∀ {xs : List Val} {vs : List V} (n : Nat), RVs K mg ρ H xs vs → RVs K mg ρ H (xs.take n) (vs.take n)
  | [], _, n, h => by rw [RVs] at h; subst h; simp [RVs]
  | x :: xs, _, 0, h => by simp [RVs]
  | x :: xs, _, n + 1, h => by
    rw [RVs] at h
    obtain ⟨w, r, rfl, h1, h2⟩ := h
    exact .cons h1 (RVs.take n h2)
theorem RVs.drop : ∀ {xs : List Val} {vs : List V} (n : Nat), RVs K mg ρ H xs vs → RVs K mg ρ H (xs.drop n) (vs.drop n)
  | [], _, n, h => by rw [RVs] at h; subst h; simp [RVs]
  | x :: xs, _, 0, h => h
  | x :: xs, _, n + 1, h => by
    rw [RVs] at h
    obtain ⟨w, r, rfl, h1, h2⟩ := h
    exact RVs.drop n h2
theorem RVs.reverse : ∀ {xs : List Val} {vs : List V}, RVs K mg ρ H xs vs → RVs K mg ρ H xs.reverse vs.reverse
  | [], _, h => by rw [RVs] at h; subst h; simp [RVs]
  | x :: xs, _, h => by
    rw [RVs] at h
    obtain ⟨w, r, rfl, h1, h2⟩ := h
    rw [List.reverse_cons, List.reverse_cons]
    exact (RVs.reverse h2).append (.cons h1 .nil)
theorem RVs.ints : ∀ {ns : List Int}, RVs K mg ρ H (ns.map Val.int) (ns.map V.int)
  | [] => .nil
  | n :: ns => .cons (by rw [RV]) RVs.ints
/-! ### pairs -/
theorem RPs.nil {κ : Type} : RPs (κ := κ) K mg ρ H [] [] := by rw [RPs]
theorem RPs.cons {κ : Type} {k : κ} {x : Val} {v : V} {xs : List (κ × Val)} {vs : List (κ × V)} (h : RV K mg ρ H x v) (t : RPs K mg ρ H xs vs) : RPs K mg ρ H ((k, x) :: xs) ((k, v) :: vs) := by
  rw [RPs]; exact ⟨v, vs, rfl, h, t⟩
theorem RPs.length {κ : Type} : ∀ {xs : List (κ × Val)} {vs : List (κ × V)}, RPs K mg ρ H xs vs → vs.length = xs.length
  | [], _, h => by rw [RPs] at h; subst h; rfl
  | x :: xs, vs, h => by
    rw [RPs] at h
    obtain ⟨v, r, rfl, h1, h2⟩ := h
    simp [RPs.length h2]
theorem RPs.lookup {κ : Type} [BEq κ] : ∀ {xs : List (κ × Val)} {vs : List (κ × V)} {k : κ} {x : Val}, RPs K mg ρ H xs vs → xs.lookup k = some x → ∃ v, vs.lookup k = some v ∧ RV K mg ρ H x v
  | [], _, _, _, _, e => by simp at e
  | (k', y) :: xs, vs, k, x, h, e => by
    rw [RPs] at h
    obtain ⟨v, r, rfl, h1, h2⟩ := h
    rw [List.lookup_cons] at e ⊢
    cases q : k == k' with
    | true => rw [q] at e; cases e; exact ⟨v, rfl, h1⟩
    | false => rw [q] at e; exact RPs.lookup h2 e
theorem RPs.lookup_none {κ : Type} [BEq κ] : ∀ {xs : List (κ × Val)} {vs : List (κ × V)} {k : κ}, RPs K mg ρ H xs vs → xs.lookup k = none → vs.lookup k = none
  | [], vs, _, h, _ => by rw [RPs] at h; subst h; rfl
  | (k', y) :: xs, vs, k, h, e => by
    rw [RPs] at h
    obtain ⟨v, r, rfl, h1, h2⟩ := h
    rw [List.lookup_cons] at e ⊢
    cases q : k == k' with
    | true => rw [q] at e; cases e
    | false => rw [q] at e; exact RPs.lookup_none h2 e
end

/-- a field is put -/
def putV (f : Str) (v : Val) : List (Str × Val) → List (Str × Val)
  | [] => [(f, v)]
  | (g, x) :: r => if g == f then (g, v) :: r else (g, x) :: putV f v r
section
variable {K : PySem.W.Frag} {mg : Str → Option Value} {ρ : List Addr} {H : Hp}
theorem RPs.put {f : Str} {x : Val} {v : V} (hv : RV K mg ρ H x v) : ∀ {xs : List (Str × Val)} {vs : List (Str × V)}, RPs K mg ρ H xs vs → RPs K mg ρ H (putV f x xs) (putF f v vs)
  | [], _, h => by rw [RPs] at h; subst h; exact .cons hv .nil
  | (g, y) :: xs, vs, h => by
    rw [RPs] at h
    obtain ⟨w, r, rfl, h1, h2⟩ := h
    show RPs K mg ρ H (if g == f then (g, x) :: xs else (g, y) :: putV f x xs) (if g = f then (g, v) :: r else (g, w) :: putF f v r)
    by_cases hg : g = f
    · rw [if_pos hg, if_pos (beq_iff_eq.mpr hg)]
      exact .cons hv h2
    · rw [if_neg hg, if_neg (fun z => hg (beq_iff_eq.mp z))]
      exact .cons h1 (RPs.put hv h2)
theorem mem_putV {f : Str} {x : Val} : ∀ {xs : List (Str × Val)} {p : Str × Val}, p ∈ putV f x xs → p.1 = f ∨ ∃ q ∈ xs, q.1 = p.1
  | [], p, h => by simp [putV] at h; exact .inl (by rw [h])
  | (g, y) :: xs, p, h => by
    have h' : p ∈ (if g == f then (g, x) :: xs else (g, y) :: putV f x xs) := h
    split at h'
    · rcases List.mem_cons.mp h' with e | e
      · exact .inr ⟨(g, y), List.mem_cons_self, by rw [e]⟩
      · exact .inr ⟨p, List.mem_cons_of_mem _ e, rfl⟩
    · rcases List.mem_cons.mp h' with e | e
      · exact .inr ⟨(g, y), List.mem_cons_self, by rw [e]⟩
      · rcases mem_putV e with e | ⟨q, h1, h2⟩
        · exact .inl e
        · exact .inr ⟨q, List.mem_cons_of_mem _ h1, h2⟩
end
/-! ### the store -/
section
variable {K : PySem.W.Frag} {mg : Str → Option Value} {ρ ρ' : List Addr} {H H' : Hp} {st st' : Sto}
theorem RO.mono (e : Ext ρ H ρ' H') {o : Ob} {a : Addr} (ha : H' a = H a) (h : RO K mg ρ H o a) : RO K mg ρ' H' o a := by
  cases o with
  | lst xs => obtain ⟨vs, h1, h2⟩ := h; exact ⟨vs, ha.trans h1, h2.mono e⟩
  | dK kvs => obtain ⟨vs, h1, h2⟩ := h; exact ⟨vs, ha.trans h1, h2.mono e⟩
  | dT kvs => obtain ⟨vs, h1, h2⟩ := h; exact ⟨vs, ha.trans h1, h2.mono e⟩
  | ins c al fs => obtain ⟨C, dx, vs, h0, hc, hn, h1, h2, h3⟩ := h; exact ⟨C, dx, vs, h0, hc, hn, ha.trans h1, h2.mono e, h3⟩
theorem RO.there {o : Ob} {a : Addr} (h : RO K mg ρ H o a) : ∃ u, H a = some u ∧ Wr u := by
  cases o with
  | lst xs => obtain ⟨vs, h1, h2⟩ := h; exact ⟨_, h1, fun _ z => (by cases z), fun _ _ z => (by cases z), fun _ z => (by cases z)⟩
  | dK kvs => obtain ⟨vs, h1, h2⟩ := h; exact ⟨_, h1, fun _ z => (by cases z), fun _ _ z => (by cases z), fun _ z => (by cases z)⟩
  | dT kvs => obtain ⟨vs, h1, h2⟩ := h; exact ⟨_, h1, fun _ z => (by cases z), fun _ _ z => (by cases z), fun _ z => (by cases z)⟩
  | ins c al fs => obtain ⟨C, dx, vs, h0, hc, hn, h1, h2, h3⟩ := h; exact ⟨_, h1, fun _ z => (by cases z), fun _ _ z => (by cases z), fun _ z => (by cases z)⟩
theorem RS.addr (r : RS K mg ρ H st) {l : Nat} {o : Ob} (h : st[l]? = some o) : ∃ a, ρ[l]? = some a ∧ RO K mg ρ H o a := by
  have hl : l < ρ.length := by rw [r.len]; exact (List.getElem?_eq_some_iff.mp h).1
  exact ⟨ρ[l], List.getElem?_eq_getElem hl, r.ob l _ o (List.getElem?_eq_getElem hl) h⟩
theorem RS.at (r : RS K mg ρ H st) {l : Nat} {o : Ob} {a : Addr} (h : st[l]? = some o) (ha : ρ[l]? = some a) : RO K mg ρ H o a := r.ob l a o ha h
theorem RS.thereOf (r : RS K mg ρ H st) {l : Nat} {a : Addr} (ha : ρ[l]? = some a) : ∃ u, H a = some u := by
  have hl : l < st.length := by rw [← r.len]; exact (List.getElem?_eq_some_iff.mp ha).1
  obtain ⟨u, h, _⟩ := RO.there (r.ob l a _ ha (List.getElem?_eq_getElem hl))
  exact ⟨u, h⟩
/-- a new thing that is not of the store -/
theorem RS.new {p : Addr} {o : HO} (r : RS K mg ρ H st) (h : H p = none) : RS K mg ρ (upd H p o) st where
  len := r.len
  nd := r.nd
  ob := fun l a ob ha ho => by
    have q := r.ob l a ob ha ho
    obtain ⟨u, hu⟩ := r.thereOf ha
    exact q.mono (Ext.new h) (upd_ne (ne_of_none hu h))
/-- a new object of the store -/
theorem RS.snoc {p : Addr} {u : HO} {o : Ob} (r : RS K mg ρ H st) (h : H p = none) (ho : RO K mg (ρ ++ [p]) (upd H p u) o p) : RS K mg (ρ ++ [p]) (upd H p u) (st ++ [o]) where
  len := by simp [r.len]
  nd := by
    rw [List.nodup_append]
    refine ⟨r.nd, by simp, fun a ha b hb => ?_⟩
    obtain ⟨l, hl⟩ := List.mem_iff_getElem?.mp ha
    obtain ⟨u, hu⟩ := r.thereOf hl
    simp at hb
    subst hb
    exact ne_of_none hu h
  ob := fun l a ob ha hob => by
    by_cases hl : l < ρ.length
    · rw [List.getElem?_append_left hl] at ha
      rw [List.getElem?_append_left (by rw [← r.len]; exact hl)] at hob
      obtain ⟨u, hu⟩ := r.thereOf ha
      exact (r.ob l a ob ha hob).mono (Ext.snoc h) (upd_ne (ne_of_none hu h))
    · have hl2 : l = ρ.length := by
        have := (List.getElem?_eq_some_iff.mp ha).1
        simp at this; omega
      subst hl2
      simp at ha
      rw [r.len] at hob
      simp at hob
      subst ha hob
      exact ho
/-- an object of the store is written -/
theorem RS.set {l : Nat} {p : Addr} {u : HO} {o : Ob} (r : RS K mg ρ H st) (hp : ρ[l]? = some p) (ho : RO K mg ρ (upd H p u) o p) : RS K mg ρ (upd H p u) (st.set l o) where
  len := by simp [r.len]
  nd := r.nd
  ob := fun j a ob ha hob => by
    have hl : l < ρ.length := (List.getElem?_eq_some_iff.mp hp).1
    by_cases hj : j = l
    · subst hj
      rw [hp] at ha
      rw [List.getElem?_set_self (by rw [← r.len]; exact hl)] at hob
      cases ha; cases hob
      exact ho
    · rw [List.getElem?_set_ne (Ne.symm hj)] at hob
      have hne : a ≠ p := by
        rintro rfl
        obtain ⟨h1, e1⟩ := List.getElem?_eq_some_iff.mp ha
        obtain ⟨h2, e2⟩ := List.getElem?_eq_some_iff.mp hp
        exact hj ((List.getElem_inj r.nd).mp (e1.trans e2.symm))
      have hlt : l < st.length := by rw [← r.len]; exact hl
      obtain ⟨w, h1, h2⟩ := RO.there (r.ob l p _ hp (List.getElem?_eq_getElem hlt))
      exact (r.ob j a ob ha hob).mono (Ext.set h1 h2) (upd_ne hne)
theorem RS.ext {l : Nat} {p : Addr} {u : HO} (r : RS K mg ρ H st) (hp : ρ[l]? = some p) : Ext ρ H ρ (upd H p u) := by
  have hlt : l < st.length := by rw [← r.len]; exact (List.getElem?_eq_some_iff.mp hp).1
  obtain ⟨w, h1, h2⟩ := RO.there (r.ob l p _ hp (List.getElem?_eq_getElem hlt))
  exact Ext.set h1 h2
end
end Sm

/-! The Sim layer, part 1: the judgements; names, constants, operators, tests. -/
namespace Sm
open PySem L2

/-- what holds an exception in an except suite: its slot, its place, its class, its dict -/
structure XI where
  i : Nat
  a : Addr
  cls : Value
  d : Option Addr
/-- what stands around a code: the names by slot, the scope, the room, whether nothing is handled, whether it is a def's own body, the names that may be stored, the exception that is held -/
structure Sc where
  N : List Str
  sc : Scope
  k : Nat
  calm : Bool := true
  top : Bool := true
  fn : Str → Bool := fun _ => true
  xi : Option XI := none

structure XOk (P : Program) (w : World) (K : PySem.W.Frag) (mg : Str → Option Value) (base : Heap) (S : Sc) (X : Cx) : Prop where
  prog : P = X.prog
  w : w = X.w
  K : K = X.K
  mg : mg = X.mg
  base : base = X.base
  N : S.N = X.N
  scope : S.sc = X.env.scope
  calm : S.calm = X.calm
  room : S.calm = true → Room S.k X.A
  top : S.top = true → X.stack = X.env :: X.outer ∧ X.env.frame = some X.env.locals
  fn : ∀ x, S.fn x = true → X.fn x = true
  passes : PassesOwn (model X.prog X.w) X.A X.env X.xe
  gd : X.A.guards = some []
  suite : ∀ ξ, S.xi = some ξ → ∃ X0 oe pn, X = Cx.suite X0 ξ.a ((ξ.a, oe) :: pn) ∧ Zc ξ.cls ξ.d oe ∧ ∃ vs, oe.data = .fields vs

section
variable (K : PySem.W.Frag) (mg : Str → Option Value)
/-- the slots -/
def RE (ρ : List Addr) (H : Hp) (xi : Option XI) (env : Env) (σ : L2.St) : Prop :=
  σ.length = env.length ∧ (∀ (j : Nat) (x : Val), env[j]? = some (some x) → (∀ c fs, x ≠ .exc c fs) → ∃ v, σ[j]? = some (some v) ∧ RV K mg ρ H x v) ∧
    ∀ ξ c fs, xi = some ξ → env[ξ.i]? = some (some (.exc c fs)) → σ[ξ.i]? = some (some (.ref ξ.a)) ∧ RX K mg ρ H (c, fs) ξ.cls ξ.d
/-- what is wanted behind an expression -/
def Post {α β : Type} (rel : List Addr → Hp → α → β → Prop) (W : WX) (ρ : List Addr) (H : Hp) (σ : L2.St) (Q : β → Hp → Prop) : R α → Prop
  | .ok x st' => ∀ ρ' H' v, Ext ρ H ρ' H' → RS K mg ρ' H' st' → rel ρ' H' x v → Q v H'
  | .err x st' => ∀ ρ' H' cls d, Ext ρ H ρ' H' → RS K mg ρ' H' st' → RX K mg ρ' H' x cls d → W cls d σ H'
  | .stuck => False
abbrev relB : List Addr → Hp → Bool → Bool → Prop := fun _ _ a b => a = b
abbrev PostE := Post K mg (RV K mg)
abbrev PostB := Post K mg relB
abbrev PostA := Post K mg (RVs K mg)
def tE (W : WX) (xi : Option XI) (m : Ex) : TE := fun σ H Q => ∃ ρ st env, RS K mg ρ H st ∧ RE K mg ρ H xi env σ ∧ PostE K mg W ρ H σ Q (m env st)
def tT (W : WX) (xi : Option XI) (m : Tx) : TT := fun σ H Q => ∃ ρ st env, RS K mg ρ H st ∧ RE K mg ρ H xi env σ ∧ PostB K mg W ρ H σ Q (m env st)
def tA (W : WX) (xi : Option XI) (m : Ax) : TA := fun σ H Q => ∃ ρ st env, RS K mg ρ H st ∧ RE K mg ρ H xi env σ ∧ PostA K mg W ρ H σ Q (m env st)
/-- what is wanted behind a statement -/
def PostS (W : WX) (xi : Option XI) (ρ : List Addr) (H : Hp) (D : Ends) : SR → Prop
  | .nx e st' => ∀ ρ' H' σ', Ext ρ H ρ' H' → RS K mg ρ' H' st' → RE K mg ρ' H' xi e σ' → D.nx σ' H'
  | .bk e st' => ∀ ρ' H' σ', Ext ρ H ρ' H' → RS K mg ρ' H' st' → RE K mg ρ' H' xi e σ' → D.bk σ' H'
  | .ct e st' => ∀ ρ' H' σ', Ext ρ H ρ' H' → RS K mg ρ' H' st' → RE K mg ρ' H' xi e σ' → D.ct σ' H'
  | .rt x st' => ∀ ρ' H' v, Ext ρ H ρ' H' → RS K mg ρ' H' st' → RV K mg ρ' H' x v → D.rt v H'
  | .er x e st' => ∀ ρ' H' σ' cls d, Ext ρ H ρ' H' → RS K mg ρ' H' st' → RE K mg ρ' H' xi e σ' → RX K mg ρ' H' x cls d → W cls d σ' H'
  | .stuck => False
def tS (W : WX) (xi : Option XI) (m : Sx) : TS := fun D σ H => ∃ ρ st env, RS K mg ρ H st ∧ RE K mg ρ H xi env σ ∧ PostS K mg W xi ρ H D (m env st)
end

section
variable {K : PySem.W.Frag} {mg : Str → Option Value} {ρ ρ' : List Addr} {H H' : Hp} {W : WX} {σ : L2.St} {st : Sto} {xi : Option XI} {env : Env}
theorem RX.mono (e : Ext ρ H ρ' H') {x : Xn} {cls : Value} {d : Option Addr} (h : RX K mg ρ H x cls d) : RX K mg ρ' H' x cls d := by
  obtain ⟨C, h1, h2, h3⟩ := h
  refine ⟨C, h1, h2, ?_⟩
  rcases h3 with h3 | ⟨dd, ps, h3, h4, h5⟩
  · exact .inl h3
  · exact .inr ⟨dd, ps, h3, e.xds _ _ h4, h5.mono e⟩
theorem Post.mono {α β : Type} {rel : List Addr → Hp → α → β → Prop} {Q : β → Hp → Prop} {r : R α} (h : Post K mg rel W ρ H σ Q r) (e : Ext ρ H ρ' H') : Post K mg rel W ρ' H' σ Q r := by
  cases r with
  | ok x st' => exact fun ρ'' H'' v e' => h ρ'' H'' v (e.trans e')
  | err x st' => exact fun ρ'' H'' c d e' => h ρ'' H'' c d (e.trans e')
  | stuck => exact h
theorem PostS.mono {D : Ends} {r : SR} (h : PostS K mg W xi ρ H D r) (e : Ext ρ H ρ' H') : PostS K mg W xi ρ' H' D r := by
  cases r with
  | nx x st' => exact fun ρ'' H'' v e' => h ρ'' H'' v (e.trans e')
  | bk x st' => exact fun ρ'' H'' v e' => h ρ'' H'' v (e.trans e')
  | ct x st' => exact fun ρ'' H'' v e' => h ρ'' H'' v (e.trans e')
  | rt x st' => exact fun ρ'' H'' v e' => h ρ'' H'' v (e.trans e')
  | er x en st' => exact fun ρ'' H'' s c d e' => h ρ'' H'' s c d (e.trans e')
  | stuck => exact h
theorem Post.imp {α β : Type} {rel : List Addr → Hp → α → β → Prop} {Q Q' : β → Hp → Prop} {r : R α} (h : Post K mg rel W ρ H σ Q r) (f : ∀ v H', Q v H' → Q' v H') : Post K mg rel W ρ H σ Q' r := by
  cases r with
  | ok x st' => exact fun ρ'' H'' v e' a b => f _ _ (h ρ'' H'' v e' a b)
  | err x st' => exact h
  | stuck => exact h
/-- behind the first part -/
theorem Post.bind {α α' β β' : Type} {rel : List Addr → Hp → α → β → Prop} {rel' : List Addr → Hp → α' → β' → Prop} {Q : β' → Hp → Prop} {G : β → Hp → Prop} {r : R α} {f : α → Sto → R α'} (h : Post K mg rel' W ρ H σ Q (r.bind f))
    (g : ∀ ρ1 H1 st1 x v, r = .ok x st1 → Ext ρ H ρ1 H1 → RS K mg ρ1 H1 st1 → rel ρ1 H1 x v → Post K mg rel' W ρ1 H1 σ Q (f x st1) → G v H1) : Post K mg rel W ρ H σ G r := by
  cases r with
  | ok x st' => exact fun ρ1 H1 v e rs rv => g ρ1 H1 st' x v rfl e rs rv (Post.mono (r := f x st') h e)
  | err x st' => exact h
  | stuck => exact h
theorem RE.mono (re : RE K mg ρ H xi env σ) (e : Ext ρ H ρ' H') : RE K mg ρ' H' xi env σ := by
  refine ⟨re.1, fun j x hj hx => ?_, fun ξ c fs h1 h2 => ?_⟩
  · obtain ⟨v, h1, h2⟩ := re.2.1 j x hj hx
    exact ⟨v, h1, h2.mono e⟩
  · obtain ⟨h3, h4⟩ := re.2.2 ξ c fs h1 h2
    exact ⟨h3, h4.mono e⟩
/-- .. in a statement -/
theorem PostS.bind {α β : Type} {rel : List Addr → Hp → α → β → Prop} {D : Ends} {G : β → Hp → Prop} {r : R α} {f : α → Sto → SR} (h : PostS K mg W xi ρ H D (r.to env f)) (re : RE K mg ρ H xi env σ)
    (g : ∀ ρ1 H1 st1 x v, r = .ok x st1 → Ext ρ H ρ1 H1 → RS K mg ρ1 H1 st1 → rel ρ1 H1 x v → PostS K mg W xi ρ1 H1 D (f x st1) → G v H1) : Post K mg rel W ρ H σ G r := by
  cases r with
  | ok x st' => exact fun ρ1 H1 v e rs rv => g ρ1 H1 st' x v rfl e rs rv (PostS.mono (r := f x st') h e)
  | err x st' => exact fun ρ1 H1 cls d e rs rx => h ρ1 H1 σ cls d e rs (re.mono e) rx
  | stuck => exact h
end
end Sm

/-! The Sim layer, part 2: the judgements; names, constants, operators, tests. -/
namespace Sm
open PySem L2

theorem PE.imp {X : Cx} {e : Expr} {t t' : TE} (h : PE X e t) (f : ∀ σ H Q, t' σ H Q → t σ H Q) : PE X e t' := ⟨fun pins s σ H Q I q => h.run pins s σ H Q I (f _ _ _ q)⟩
theorem PT.imp {X : Cx} {e : Expr} {t t' : TT} (h : PT X e t) (f : ∀ σ H Q, t' σ H Q → t σ H Q) : PT X e t' := ⟨fun pins s σ H Q I q => h.run pins s σ H Q I (f _ _ _ q)⟩
theorem PW.imp {X : Cx} {e : Expr} {t t' : TT} (h : PW X e t) (f : ∀ σ H Q, t' σ H Q → t σ H Q) : PW X e t' := ⟨fun w pins s σ H Q I q => h.run w pins s σ H Q I (f _ _ _ q)⟩
theorem PA.imp {X : Cx} {e : List Expr} {t t' : TA} (h : PA X e t) (f : ∀ σ H Q, t' σ H Q → t σ H Q) : PA X e t' := ⟨fun pos pins s σ H Q I q => h.run pos pins s σ H Q I (f _ _ _ q)⟩
theorem PS.imp {X : Cx} {e : Stmt} {t t' : TS} (h : PS X e t) (f : ∀ D σ H, t' D σ H → t D σ H) : PS X e t' := ⟨fun pins s σ H D I q => h.run pins s σ H D I (f _ _ _ q)⟩
theorem PSs.imp {X : Cx} {e : List Stmt} {t t' : TS} (h : PSs X e t) (f : ∀ D σ H, t' D σ H → t D σ H) : PSs X e t' := ⟨fun pins s σ H D I q => h.run pins s σ H D I (f _ _ _ q)⟩

section
variable (P : Program) (w : World) (K : PySem.W.Frag) (mg : Str → Option Value) (base : Heap) (S : Sc)
def SimE (e : Expr) (m : Ex) : Prop := ∀ X W, XOk P w K mg base S X → Takes X W → PE X e (tE K mg W S.xi m)
def SimT (e : Expr) (m : Tx) : Prop := ∀ X W, XOk P w K mg base S X → Takes X W → PT X e (tT K mg W S.xi m)
def SimW (e : Expr) (m : Tx) : Prop := ∀ X W, XOk P w K mg base S X → Takes X W → PW X e (tT K mg W S.xi m)
def SimA (es : List Expr) (m : Ax) : Prop := ∀ X W, XOk P w K mg base S X → Takes X W → PA X es (tA K mg W S.xi m)
def SimS (s : Stmt) (m : Sx) : Prop := ∀ X W, XOk P w K mg base S X → Takes X W → PS X s (tS K mg W S.xi m)
def SimSs (s : List Stmt) (m : Sx) : Prop := ∀ X W, XOk P w K mg base S X → Takes X W → PSs X s (tS K mg W S.xi m)
/-- an operator of two values -/
def OpOk (f : Value → Value → Sem Value) (o : Val → Val → Sto → R Val) : Prop := ∀ X, XOk P w K mg base S X → ∃ r : R2, OpR X f r ∧
  ∀ (ρ : List Addr) (H : Hp) (st : Sto) (x y : Val) (v u : V) (W : WX) (σ : L2.St) (Q : VK), RS K mg ρ H st → RV K mg ρ H x v → RV K mg ρ H y u → PostE K mg W ρ H σ Q (o x y st) → r v u H Q
/-- a call of a value -/
def ClOk (f : Value) (o : List Val → Sto → R Val) : Prop := ∀ X, XOk P w K mg base S X → ∃ r : List V → Hp → VK → Prop, CallR X f r ∧
  ∀ (ρ : List Addr) (H : Hp) (st : Sto) (xs : List Val) (vs : List V) (W : WX) (σ : L2.St) (Q : VK), RS K mg ρ H st → RVs K mg ρ H xs vs → PostE K mg W ρ H σ Q (o xs st) → r vs H Q
end

/-! ### the combinators -/
def eVar (i : Nat) : Ex := fun env st => match env[i]? with
  | some (some (.exc _ _)) => .stuck
  | some (some v) => .ok v st
  | _ => .stuck
def eC (v : Val) : Ex := fun _ st => .ok v st
def eOp (o : Val → Val → Sto → R Val) (a b : Ex) : Ex := fun env st => (a env st).bind fun x st1 => (b env st1).bind fun y st2 => o x y st2
def eUn (o : Val → Sto → R Val) (a : Ex) : Ex := fun env st => (a env st).bind fun x st1 => o x st1
def eChain (o o' : Val → Val → Sto → R Val) (a b c : Ex) : Ex := fun env st => (a env st).bind fun x st1 => (b env st1).bind fun y st2 => (o x y st2).bind fun z st3 => match z with
  | .bl true => (c env st3).bind fun u st4 => o' y u st4
  | .bl false => .ok (.bl false) st3
  | _ => .stuck
def asB : Val → Sto → R Bool
  | .bl b, st => .ok b st
  | _, _ => .stuck
def tVal (a : Ex) : Tx := fun env st => (a env st).bind asB
def tAnd' (a b : Tx) : Tx := fun env st => (a env st).bind fun x st1 => if x then b env st1 else .ok false st1
def tOr' (a b : Tx) : Tx := fun env st => (a env st).bind fun x st1 => if x then .ok true st1 else b env st1
def tNot' (a : Tx) : Tx := fun env st => (a env st).bind fun x st1 => .ok (!x) st1
def eAnd (a b : Ex) : Ex := fun env st => (a env st).bind fun x st1 => match x with
  | .bl true => b env st1
  | .bl false => .ok (.bl false) st1
  | _ => .stuck
def eOr (a b : Ex) : Ex := fun env st => (a env st).bind fun x st1 => match x with
  | .bl true => .ok (.bl true) st1
  | .bl false => b env st1
  | _ => .stuck
def eNot (a : Ex) : Ex := fun env st => (a env st).bind fun x st1 => match x with
  | .bl b => .ok (.bl (!b)) st1
  | _ => .stuck
def eIf (c : Tx) (a b : Ex) : Ex := fun env st => (c env st).bind fun x st1 => if x then a env st1 else b env st1
def aNil : Ax := fun _ st => .ok [] st
def aCons (a : Ex) (r : Ax) : Ax := fun env st => (a env st).bind fun x st1 => (r env st1).bind fun xs st2 => .ok (x :: xs) st2
def eTup (a : Ax) : Ex := fun env st => (a env st).bind fun xs st1 => if xs.length ≤ 16777216 then .ok (.tup xs) st1 else .stuck
def eLst (a : Ax) : Ex := fun env st => (a env st).bind fun xs st1 => if xs.length ≤ 16777216 then .ok (.loc st1.length) (st1 ++ [.lst xs]) else .stuck
def eCall (o : List Val → Sto → R Val) (a : Ax) : Ex := fun env st => (a env st).bind fun xs st1 => o xs st1

section
variable {P : Program} {w : World} {K : PySem.W.Frag} {mg : Str → Option Value} {base : Heap} {S : Sc}
variable {e a b c : Expr} {es : List Expr} {ma mb mc : Ex} {ta tb : Tx} {aa ab : Ax} {pos : Pos} {o o' : Val → Val → Sto → R Val}

theorem simE_var {i : Nat} {x : Str} (hN : S.N[i]? = some x) (hv : Vis S.sc x) (hd : (x == ("__debug__" : Str)) = false := by decide) (hcd : (x == ("__classdict__" : Str)) = false := by decide) : SimE P w K mg base S (.Name x pos) (eVar i) := fun X W hX tk => by
  refine PE.imp (pe_var (i := i) (by rw [← hX.N]; exact hN) (by rw [← hX.scope]; exact hv) hd hcd) fun σ H Q ⟨ρ, st, env, rs, re, h⟩ => ?_
  unfold eVar at h
  split at h
  · exact h.elim
  · rename_i v hne he
    obtain ⟨u, h1, h2⟩ := re.2.1 i v he hne
    exact ⟨u, h1, h ρ H u .refl rs h2⟩
  · exact h.elim
theorem simE_C {v : Val} {u : V} (h : ∀ X, PE X e (tC u)) (hr : ∀ ρ H, RV K mg ρ H v u) : SimE P w K mg base S e (eC v) := fun X W hX tk =>
  PE.imp (h X) fun σ H Q ⟨ρ, st, env, rs, re, q⟩ => q ρ H u .refl rs (hr ρ H)
theorem simE_int {i : Int} {j} : SimE P w K mg base S (.Constant (.int i) j pos) (eC (.int i)) := simE_C (fun _ => pe_int) fun _ _ => by rw [RV]
theorem simE_bl {i : Bool} {j} : SimE P w K mg base S (.Constant (.bool i) j pos) (eC (.bl i)) := simE_C (fun _ => pe_bl) fun _ _ => by rw [RV]
theorem simE_str {i : Str} {j} : SimE P w K mg base S (.Constant (.str i) j pos) (eC (.str i)) := simE_C (fun _ => pe_str) fun _ _ => by rw [RV]
theorem simE_non {j} : SimE P w K mg base S (.Constant .none j pos) (eC .non) := simE_C (fun _ => pe_non) fun _ _ => by rw [RV]
/-- a module's constant, class, def -/
theorem simE_glob {x : Str} {u : Value} {v : V} {z : Val} (hg : S.sc.names.lookup x = some .globalImplicit) (hm : mg x = some u) (r : RelV v u) (hz : ∀ ρ H, RV K mg ρ H z v) (hd : (x == ("__debug__" : Str)) = false := by decide) : SimE P w K mg base S (.Name x pos) (eC z) := fun X W hX tk =>
  PE.imp (pe_glob (v := v) (show X.env.scope.names.lookup x = _ by rw [← hX.scope]; exact hg) (by rw [← hX.mg]; exact hm) r hd) fun σ H Q ⟨ρ, st, env, rs, re, q⟩ => q ρ H v .refl rs (hz ρ H)

theorem simE_op {op : Operator} (ho : OpOk P w K mg base S (binaryOp op) o) (ha : SimE P w K mg base S a ma) (hb : SimE P w K mg base S b mb) : SimE P w K mg base S (.BinOp a op b pos) (eOp o ma mb) := fun X W hX tk => by
  obtain ⟨r, h1, h2⟩ := ho X hX
  refine PE.imp (pe_op h1 (ha X W hX tk) (hb X W hX tk)) fun σ H Q ⟨ρ, st, env, rs, re, h⟩ => ?_
  refine ⟨ρ, st, env, rs, re, Post.bind h fun ρ1 H1 st1 x v _ e1 rs1 rv p1 => ?_⟩
  refine ⟨ρ1, st1, env, rs1, re.mono e1, Post.bind p1 fun ρ2 H2 st2 y u _ e2 rs2 ru p2 => ?_⟩
  exact h2 ρ2 H2 st2 x y v u W σ Q rs2 (rv.mono e2) ru p2
theorem simE_cmp {op : CmpOp} (ho : OpOk P w K mg base S (compareOp op) o) (ha : SimE P w K mg base S a ma) (hb : SimE P w K mg base S b mb) (hm : behindInMarks op b = false) : SimE P w K mg base S (.Compare a [op] [b] pos) (eOp o ma mb) := fun X W hX tk => by
  obtain ⟨r, h1, h2⟩ := ho X hX
  refine PE.imp (pe_cmpR h1 (ha X W hX tk) (hb X W hX tk) hm) fun σ H Q ⟨ρ, st, env, rs, re, h⟩ => ?_
  refine ⟨ρ, st, env, rs, re, Post.bind h fun ρ1 H1 st1 x v _ e1 rs1 rv p1 => ?_⟩
  refine ⟨ρ1, st1, env, rs1, re.mono e1, Post.bind p1 fun ρ2 H2 st2 y u _ e2 rs2 ru p2 => ?_⟩
  exact h2 ρ2 H2 st2 x y v u W σ Q rs2 (rv.mono e2) ru p2
theorem blOf {ρ : List Addr} {H : Hp} {x : Val} {v : V} {W : WX} {σ : L2.St} {st : Sto} {Q : Bool → Hp → Prop} (rs : RS K mg ρ H st) (rv : RV K mg ρ H x v)
    (h : PostB K mg W ρ H σ Q (asB x st)) : ∃ k, v = .bl k ∧ Q k H := by
  cases x with
  | bl b => rw [RV] at rv; exact ⟨b, rv, h ρ H b .refl rs rfl⟩
  | _ => exact h.elim
theorem simT_cmp {op : CmpOp} (ho : OpOk P w K mg base S (compareOp op) o) (ha : SimE P w K mg base S a ma) (hb : SimE P w K mg base S b mb) (hm : behindInMarks op b = false) : SimT P w K mg base S (.Compare a [op] [b] pos) (tVal (eOp o ma mb)) := fun X W hX tk => by
  obtain ⟨r, h1, h2⟩ := ho X hX
  refine PT.imp (pt_cmpR h1 (ha X W hX tk) (hb X W hX tk) hm) fun σ H Q ⟨ρ, st, env, rs, re, h⟩ => ?_
  have h' := Post.bind (rel := RV K mg) (G := fun v H1 => ∃ k, v = .bl k ∧ Q k H1) h fun ρ1 H1 st1 x v _ e1 rs1 rv p1 => blOf rs1 rv p1
  refine ⟨ρ, st, env, rs, re, Post.bind h' fun ρ1 H1 st1 x v _ e1 rs1 rv p1 => ?_⟩
  refine ⟨ρ1, st1, env, rs1, re.mono e1, Post.bind p1 fun ρ2 H2 st2 y u _ e2 rs2 ru p2 => ?_⟩
  exact h2 ρ2 H2 st2 x y v u W σ _ rs2 (rv.mono e2) ru p2
theorem simT_val (h : SimE P w K mg base S e ma) (he : ∀ env whole, isTrue e env whole = (do let v ← whole; standAt e.pos; holding [v] (truthy v))) : SimT P w K mg base S e (tVal ma) := fun X W hX tk =>
  PT.imp (pt_val (h X W hX tk) (he X.env)) fun σ H Q ⟨ρ, st, env, rs, re, q⟩ => ⟨ρ, st, env, rs, re, Post.bind q fun ρ1 H1 st1 x v _ e1 rs1 rv p1 => blOf rs1 rv p1⟩
theorem simE_chain {op op' : CmpOp} (ho : OpOk P w K mg base S (compareOp op) o) (ho' : OpOk P w K mg base S (compareOp op') o') (ha : SimE P w K mg base S a ma) (hb : SimE P w K mg base S b mb) (hc : SimE P w K mg base S c mc)
    (hm : lastMarks [op, op'] [b, c] = false) : SimE P w K mg base S (.Compare a [op, op'] [b, c] pos) (eChain o o' ma mb mc) := fun X W hX tk => by
  obtain ⟨r, h1, h2⟩ := ho X hX
  obtain ⟨r', h1', h2'⟩ := ho' X hX
  refine PE.imp (pe_chain h1 h1' (ha X W hX tk) (hb X W hX tk) (hc X W hX tk) hm) fun σ H Q ⟨ρ, st, env, rs, re, h⟩ => ?_
  refine ⟨ρ, st, env, rs, re, Post.bind h fun ρ1 H1 st1 x v _ e1 rs1 rv p1 => ?_⟩
  refine ⟨ρ1, st1, env, rs1, re.mono e1, Post.bind p1 fun ρ2 H2 st2 y u _ e2 rs2 ru p2 => ?_⟩
  refine h2 ρ2 H2 st2 x y v u W σ _ rs2 (rv.mono e2) ru (Post.bind p2 fun ρ3 H3 st3 z k _ e3 rs3 rz p3 => ?_)
  cases z with
  | bl q =>
    rw [RV] at rz
    cases q with
    | true => exact ⟨true, rz, by rw [if_pos rfl]; exact ⟨ρ3, st3, env, rs3, ((re.mono e1).mono e2).mono e3, Post.bind p3 fun ρ4 H4 st4 z2 k2 _ e4 rs4 rz2 p4 => h2' ρ4 H4 st4 y z2 u k2 W σ Q rs4 ((ru.mono e3).mono e4) rz2 p4⟩⟩
    | false => exact ⟨false, rz, by rw [if_neg (by simp)]; exact p3 ρ3 H3 _ .refl rs3 (by rw [RV])⟩
  | _ => exact p3.elim
theorem simW_and1 (ha : SimT P w K mg base S a ta) : SimW P w K mg base S (.BoolOp .And [a] pos) ta := fun X W hX tk => pw_and1 (ha X W hX tk)
theorem simW_or1 (ha : SimT P w K mg base S a ta) : SimW P w K mg base S (.BoolOp .Or [a] pos) ta := fun X W hX tk => pw_or1 (ha X W hX tk)
theorem simW_and (ha : SimT P w K mg base S a ta) (hb : SimW P w K mg base S (.BoolOp .And (b :: es) pos) tb) : SimW P w K mg base S (.BoolOp .And (a :: b :: es) pos) (tAnd' ta tb) := fun X W hX tk =>
  PW.imp (pw_and (ha X W hX tk) (hb X W hX tk)) fun σ H Q ⟨ρ, st, env, rs, re, h⟩ => ⟨ρ, st, env, rs, re, Post.bind h fun ρ1 H1 st1 x v _ e1 rs1 rv p1 => by
    cases rv
    cases x with
    | true => rw [if_pos rfl]; exact ⟨ρ1, st1, env, rs1, re.mono e1, p1⟩
    | false => rw [if_neg (by simp)]; exact p1 ρ1 H1 false .refl rs1 rfl⟩
theorem simW_or (ha : SimT P w K mg base S a ta) (hb : SimW P w K mg base S (.BoolOp .Or (b :: es) pos) tb) : SimW P w K mg base S (.BoolOp .Or (a :: b :: es) pos) (tOr' ta tb) := fun X W hX tk =>
  PW.imp (pw_or (ha X W hX tk) (hb X W hX tk)) fun σ H Q ⟨ρ, st, env, rs, re, h⟩ => ⟨ρ, st, env, rs, re, Post.bind h fun ρ1 H1 st1 x v _ e1 rs1 rv p1 => by
    cases rv
    cases x with
    | false => rw [if_neg (by simp)]; exact ⟨ρ1, st1, env, rs1, re.mono e1, p1⟩
    | true => rw [if_pos rfl]; exact p1 ρ1 H1 true .refl rs1 rfl⟩
theorem simT_W (h : SimW P w K mg base S e ta) : SimT P w K mg base S e ta := fun X W hX tk => (h X W hX tk).pt
theorem simT_not (ha : SimT P w K mg base S a ta) : SimT P w K mg base S (.UnaryOp .Not a pos) (tNot' ta) := fun X W hX tk =>
  PT.imp (pt_not (ha X W hX tk)) fun σ H Q ⟨ρ, st, env, rs, re, h⟩ => ⟨ρ, st, env, rs, re, Post.bind h fun ρ1 H1 st1 x v _ e1 rs1 rv p1 => by
    cases rv; exact p1 ρ1 H1 (!x) .refl rs1 rfl⟩
theorem simE_one {op} (ha : SimE P w K mg base S a ma) : SimE P w K mg base S (.BoolOp op [a] pos) ma := fun X W hX tk => pe_one (ha X W hX tk)
theorem simE_and (ha : SimE P w K mg base S a ma) (hb : SimE P w K mg base S (.BoolOp .And (b :: es) pos) mb) : SimE P w K mg base S (.BoolOp .And (a :: b :: es) pos) (eAnd ma mb) := fun X W hX tk =>
  PE.imp (pe_and (ha X W hX tk) (hb X W hX tk)) fun σ H Q ⟨ρ, st, env, rs, re, h⟩ => ⟨ρ, st, env, rs, re, Post.bind h fun ρ1 H1 st1 x v _ e1 rs1 rv p1 => by
    cases x with
    | bl q =>
      rw [RV] at rv
      cases q with
      | true => exact ⟨true, rv, by rw [if_pos rfl]; exact ⟨ρ1, st1, env, rs1, re.mono e1, p1⟩⟩
      | false => exact ⟨false, rv, by rw [if_neg (by simp)]; exact p1 ρ1 H1 _ .refl rs1 (by rw [RV])⟩
    | _ => exact p1.elim⟩
theorem simE_or (ha : SimE P w K mg base S a ma) (hb : SimE P w K mg base S (.BoolOp .Or (b :: es) pos) mb) : SimE P w K mg base S (.BoolOp .Or (a :: b :: es) pos) (eOr ma mb) := fun X W hX tk =>
  PE.imp (pe_or (ha X W hX tk) (hb X W hX tk)) fun σ H Q ⟨ρ, st, env, rs, re, h⟩ => ⟨ρ, st, env, rs, re, Post.bind h fun ρ1 H1 st1 x v _ e1 rs1 rv p1 => by
    cases x with
    | bl q =>
      rw [RV] at rv
      cases q with
      | false => exact ⟨false, rv, by rw [if_neg (by simp)]; exact ⟨ρ1, st1, env, rs1, re.mono e1, p1⟩⟩
      | true => exact ⟨true, rv, by rw [if_pos rfl]; exact p1 ρ1 H1 _ .refl rs1 (by rw [RV])⟩
    | _ => exact p1.elim⟩
theorem simE_not (ha : SimE P w K mg base S a ma) : SimE P w K mg base S (.UnaryOp .Not a pos) (eNot ma) := fun X W hX tk =>
  PE.imp (pe_not (ha X W hX tk)) fun σ H Q ⟨ρ, st, env, rs, re, h⟩ => ⟨ρ, st, env, rs, re, Post.bind h fun ρ1 H1 st1 x v _ e1 rs1 rv p1 => by
    cases x with
    | bl q => rw [RV] at rv; exact ⟨q, rv, p1 ρ1 H1 _ .refl rs1 (by rw [RV])⟩
    | _ => exact p1.elim⟩
theorem simE_if {c : Expr} (hc : SimT P w K mg base S c ta) (ha : SimE P w K mg base S a ma) (hb : SimE P w K mg base S b mb) : SimE P w K mg base S (.IfExp c a b pos) (eIf ta ma mb) := fun X W hX tk =>
  PE.imp (pe_ifExp (hc X W hX tk) (ha X W hX tk) (hb X W hX tk)) fun σ H Q ⟨ρ, st, env, rs, re, h⟩ => ⟨ρ, st, env, rs, re, Post.bind h fun ρ1 H1 st1 x v _ e1 rs1 rv p1 => by
    cases rv
    cases x with
    | true => rw [if_pos rfl]; exact ⟨ρ1, st1, env, rs1, re.mono e1, p1⟩
    | false => rw [if_neg (by simp)]; exact ⟨ρ1, st1, env, rs1, re.mono e1, p1⟩⟩
theorem simA_nil : SimA P w K mg base S [] aNil := fun X W hX tk =>
  PA.imp pa_nil fun σ H Q ⟨ρ, st, env, rs, re, h⟩ => h ρ H [] .refl rs .nil
theorem simA_cons (ha : SimE P w K mg base S a ma) (hr : SimA P w K mg base S es ab) (hs : ∀ env, starEach (a :: es) env = (false, eval a env) :: starEach es env) : SimA P w K mg base S (a :: es) (aCons ma ab) := fun X W hX tk =>
  PA.imp (pa_cons (ha X W hX tk) (hr X W hX tk) (hs _)) fun σ H Q ⟨ρ, st, env, rs, re, h⟩ => ⟨ρ, st, env, rs, re, Post.bind h fun ρ1 H1 st1 x v _ e1 rs1 rv p1 =>
    ⟨ρ1, st1, env, rs1, re.mono e1, Post.bind p1 fun ρ2 H2 st2 xs vs _ e2 rs2 rvs p2 => p2 ρ2 H2 (v :: vs) .refl rs2 (.cons (rv.mono e2) rvs)⟩⟩
theorem line_le {n : Nat} (h : n ≤ 16777216) : n ≤ sizeLine := by rw [sizeLine_eq]; exact h
theorem le_line {n : Nat} (h : n ≤ sizeLine) : n ≤ 16777216 := by rw [sizeLine_eq] at h; exact h
theorem simE_tup {x1} (h : SimA P w K mg base S es aa) : SimE P w K mg base S (.Tuple es x1 pos) (eTup aa) := fun X W hX tk =>
  PE.imp (pe_tup (h X W hX tk)) fun σ H Q ⟨ρ, st, env, rs, re, h⟩ => ⟨ρ, st, env, rs, re, Post.bind h fun ρ1 H1 st1 xs vs _ e1 rs1 rvs p1 => by
    split at p1
    · rename_i hz
      refine ⟨line_le (by rw [rvs.length]; exact hz), fun p hp => p1 ρ1 _ (.ref p) (.new hp) (rs1.new hp) ?_⟩
      rw [RV]
      exact ⟨p, vs, rfl, upd_same, rvs.mono (.new hp)⟩
    · exact p1.elim⟩
theorem simE_lst (h : SimA P w K mg base S es aa) : SimE P w K mg base S (.List es pos) (eLst aa) := fun X W hX tk =>
  PE.imp (pe_lst (h X W hX tk)) fun σ H Q ⟨ρ, st, env, rs, re, h⟩ => ⟨ρ, st, env, rs, re, Post.bind h fun ρ1 H1 st1 xs vs _ e1 rs1 rvs p1 => by
    split at p1
    · rename_i hz
      refine ⟨line_le (by rw [rvs.length]; exact hz), fun p hp => p1 (ρ1 ++ [p]) _ (.ref p) (.snoc hp) (rs1.snoc hp ⟨vs, upd_same, rvs.mono (.snoc hp)⟩) ?_⟩
      rw [RV]
      exact ⟨p, rfl, by rw [← rs1.len]; simp⟩
    · exact p1.elim⟩
/-- a built-in by its name -/
theorem simE_callB {x : Str} {id : String} {p : Pos} {o : List Val → Sto → R Val} (hc : ClOk P w K mg base S (.builtin id) o) (hg : S.sc.names.lookup x = some .globalImplicit) (hm : mg x = none) (hv : bootBuiltins x = some (.builtin id)) (ha : SimA P w K mg base S (e :: es) aa)
    (hs : ∀ env, starEach (e :: es) env = (false, eval e env) :: starEach es env) (hpl : ∀ env, (backTo pos (starEach es env)).any (·.1) = false)
    (hn : x ≠ "__name__" := by decide) (hdb : (x == ("__debug__" : Str)) = false := by decide) : SimE P w K mg base S (.Call (.Name x p) (e :: es) [] pos) (eCall o aa) := fun X W hX tk => by
  obtain ⟨r, h1, h2⟩ := hc X hX
  exact PE.imp (pe_callB h1 (show X.env.scope.names.lookup x = _ by rw [← hX.scope]; exact hg) (by rw [← hX.mg]; exact hm) hv (ha X W hX tk) hn hdb (hs _) (hpl _)) fun σ H Q ⟨ρ, st, env, rs, re, h⟩ => ⟨ρ, st, env, rs, re, Post.bind h fun ρ1 H1 st1 xs vs _ e1 rs1 rvs p1 => h2 ρ1 H1 st1 xs vs W σ Q rs1 rvs p1⟩
theorem simE_callTy {x : Str} {id : String} {p : Pos} {o : List Val → Sto → R Val} (hc : ClOk P w K mg base S (.type id) o) (hg : S.sc.names.lookup x = some .globalImplicit) (hm : mg x = none) (hv : bootBuiltins x = some (.type id)) (ha : SimA P w K mg base S (e :: es) aa)
    (hs : ∀ env, starEach (e :: es) env = (false, eval e env) :: starEach es env) (hpl : ∀ env, (backTo pos (starEach es env)).any (·.1) = false)
    (hn : x ≠ "__name__" := by decide) (hdb : (x == ("__debug__" : Str)) = false := by decide) : SimE P w K mg base S (.Call (.Name x p) (e :: es) [] pos) (eCall o aa) := fun X W hX tk => by
  obtain ⟨r, h1, h2⟩ := hc X hX
  exact PE.imp (pe_callTy h1 (show X.env.scope.names.lookup x = _ by rw [← hX.scope]; exact hg) (by rw [← hX.mg]; exact hm) hv (ha X W hX tk) hn hdb (hs _) (hpl _)) fun σ H Q ⟨ρ, st, env, rs, re, h⟩ => ⟨ρ, st, env, rs, re, Post.bind h fun ρ1 H1 st1 xs vs _ e1 rs1 rvs p1 => h2 ρ1 H1 st1 xs vs W σ Q rs1 rvs p1⟩
end
end Sm

/-! The Sim layer, part 3: statements, targets, loops. -/
namespace Sm
open PySem L2

/-- a target of names: what the slots are behind it -/
abbrev Gx := Val → Env → Option Env
abbrev Gxs := List Val → Env → Option Env
section
variable (K : PySem.W.Frag) (mg : Str → Option Value)
/-- the slots but those of vs are as they were -/
def Agr (vs : List Nat) (σ σ' : L2.St) : Prop := σ'.length = σ.length ∧ ∀ j, j ∉ vs → σ'[j]? = σ[j]?
def PostG (xi : Option XI) (vs : List Nat) (σ : L2.St) (ρ : List Addr) (H : Hp) (st : Sto) (Q : L2.St → Hp → Prop) : Option Env → Prop
  | some env => ∀ ρ' H' σ', Ext ρ H ρ' H' → RS K mg ρ' H' st → RE K mg ρ' H' xi env σ' → Agr vs σ σ' → Q σ' H'
  | none => False
def tG (xi : Option XI) (vs : List Nat) (g : Gx) : TG := fun v σ H Q => ∃ ρ st env x, RS K mg ρ H st ∧ RE K mg ρ H xi env σ ∧ RV K mg ρ H x v ∧ PostG K mg xi vs σ ρ H st Q (g x env)
def tGs (xi : Option XI) (vs : List Nat) (g : Gxs) : TGs := fun us σ H Q => ∃ ρ st env xs, RS K mg ρ H st ∧ RE K mg ρ H xi env σ ∧ RVs K mg ρ H xs us ∧ PostG K mg xi vs σ ρ H st Q (g xs env)
end
theorem PG.imp {X : Cx} {e : Expr} {t t' : TG} (h : PG X e t) (f : ∀ v σ H Q, t' v σ H Q → t v σ H Q) : PG X e t' := ⟨fun pins s σ H v u Q I r q => h.run pins s σ H v u Q I r (f _ _ _ _ q)⟩
theorem PGs.imp {X : Cx} {e : List Expr} {t t' : TGs} (h : PGs X e t) (f : ∀ v σ H Q, t' v σ H Q → t v σ H Q) : PGs X e t' := ⟨fun pins s σ H v u Q I r q => h.run pins s σ H v u Q I r (f _ _ _ _ q)⟩
section
variable (P : Program) (w : World) (K : PySem.W.Frag) (mg : Str → Option Value) (base : Heap) (S : Sc)
def SimG (e : Expr) (vs : List Nat) (m : Gx) : Prop := ∀ X, XOk P w K mg base S X → PG X e (tG K mg S.xi vs m)
def SimGs (es : List Expr) (vs : List Nat) (m : Gxs) : Prop := ∀ X, XOk P w K mg base S X → PGs X es (tGs K mg S.xi vs m)
/-- o[i] = v, by values -/
def SetOk (o : Val → Val → Val → Sto → R Unit) : Prop := ∀ X, XOk P w K mg base S X → ∃ r : TSet, PSet X r ∧
  ∀ (ρ : List Addr) (H : Hp) (st : Sto) (x y z : Val) (a b c : V) (W : WX) (σ : L2.St) (Q : Unit → Hp → Prop), RS K mg ρ H st → RV K mg ρ H x a → RV K mg ρ H y b → RV K mg ρ H z c →
    Post K mg (fun _ _ _ _ => True) W ρ H σ Q (o x y z st) → r a b c H (fun H' => Q () H')
/-- a op= b, by values -/
def IpOk (op : Operator) (o : Val → Val → Sto → R Val) : Prop := ∀ X, XOk P w K mg base S X → ∃ r : TIp, PIp X op r ∧
  ∀ (ρ : List Addr) (H : Hp) (st : Sto) (x y : Val) (v u : V) (W : WX) (σ : L2.St) (Q : VK), RS K mg ρ H st → RV K mg ρ H x v → RV K mg ρ H y u → PostE K mg W ρ H σ Q (o x y st) → r v u H Q
end

/-! ### the combinators -/
def gNm (i : Nat) : Gx := fun x env => some (env.set i (some x))
def gNil' : Gxs := fun xs env => match xs with
  | [] => some env
  | _ => none
def gCons' (g : Gx) (gs : Gxs) : Gxs := fun xs env => match xs with
  | x :: r => (g x env).bind fun env' => gs r env'
  | [] => none
def gTup' (n : Nat) (gs : Gxs) : Gx := fun x env => match x with
  | .tup xs => if xs.length = n then gs xs env else none
  | .kt xs => if xs.length = n then gs xs env else none
  | _ => none
def sNil : Sx := fun env st => .nx env st
def sSeq (a b : Sx) : Sx := fun env st => match a env st with
  | .nx e s => b e s
  | r => r
def sDrop (a : Ex) : Sx := fun env st => (a env st).to env fun _ st1 => .nx env st1
def sRet (a : Ex) : Sx := fun env st => (a env st).to env fun x st1 => .rt x st1
def sRetN : Sx := fun _ st => .rt .non st
def sBrk : Sx := fun env st => .bk env st
def sCnt : Sx := fun env st => .ct env st
def sIf (c : Tx) (a b : Sx) : Sx := fun env st => (c env st).to env fun x st1 => if x then a env st1 else b env st1
def onG (r : Option Env) (f : Env → SR) : SR := match r with
  | some env => f env
  | none => .stuck
@[simp] theorem onG_some (e : Env) (f : Env → SR) : onG (some e) f = f e := rfl
@[simp] theorem onG_none (f : Env → SR) : onG none f = .stuck := rfl
def sAsg (a : Ex) (g : Gx) : Sx := fun env st => (a env st).to env fun x st1 => onG (g x env) fun env2 => .nx env2 st1
def sPar (i j : Nat) (a : Ax) : Sx := fun env st => (a env st).to env fun xs st1 => match xs with
  | [x, y] => .nx ((env.set i (some x)).set j (some y)) st1
  | _ => .stuck
def sAug (i : Nat) (o : Val → Val → Sto → R Val) (a : Ex) : Sx := fun env st => match env[i]? with
  | some (some (.exc _ _)) => .stuck
  | some (some x) => (a env st).to env fun y st1 => (o x y st1).to env fun z st2 => .nx (env.set i (some z)) st2
  | _ => .stuck
/-- o.f = e -/
def sFldS (f : Str) (o a : Ex) : Sx := fun env st => (a env st).to env fun x st1 => (o env st1).to env fun y st2 => match y with
  | .loc l => match st2[l]? with
    | some (.ins c al fs) => if al.contains f ∧ fs.length < 1000 then .nx env (st2.set l (.ins c al (putV f x fs))) else .stuck
    | _ => .stuck
  | _ => .stuck
/-- o.f op= e -/
def sFldA (f : Str) (op : Val → Val → Sto → R Val) (o a : Ex) : Sx := fun env st => (o env st).to env fun y st1 => match y with
  | .loc l => match st1[l]? with
    | some (.ins c al fs) => match fs.lookup f with
      | some x => (a env st1).to env fun z st2 => (op x z st2).to env fun u st3 => match st3[l]? with
        | some (.ins c' al' fs') => if c' = c ∧ al'.contains f ∧ fs'.length < 1000 then .nx env (st3.set l (.ins c al' (putV f u fs'))) else .stuck
        | _ => .stuck
      | none => .stuck
    | _ => .stuck
  | _ => .stuck
/-- o[i] = e -/
def sSub (s : Val → Val → Val → Sto → R Unit) (o i a : Ex) : Sx := fun env st => (a env st).to env fun x st1 => (o env st1).to env fun y st2 => (i env st2).to env fun z st3 => (s y z x st3).to env fun _ st4 => .nx env st4

section
variable {P : Program} {w : World} {K : PySem.W.Frag} {mg : Str → Option Value} {base : Heap} {S : Sc}
variable {e a b c : Expr} {es : List Expr} {st1 : Stmt} {sts : List Stmt} {ma mb mc : Ex} {ta tb : Tx} {aa ab : Ax} {sa sb : Sx} {pos pos' : Pos} {o o' : Val → Val → Sto → R Val} {ga : Gx} {gs : Gxs}
variable {ρ ρ' : List Addr} {H H' : Hp} {W : WX} {σ : L2.St} {st : Sto} {xi : Option XI} {env : Env}
theorem RE.set {i : Nat} {x : Val} {v : V} (re : RE K mg ρ H xi env σ) (h : RV K mg ρ H x v) : RE K mg ρ H xi (env.set i (some x)) (σ.set i (some v)) := by
  refine ⟨by simp [re.1], fun j y hj hy => ?_, fun ξ c fs h1 h2 => ?_⟩
  · by_cases hji : j = i
    · subst hji
      have hl : j < env.length := by
        have := (List.getElem?_eq_some_iff.mp hj).1
        simpa using this
      rw [List.getElem?_set_self hl] at hj
      cases hj
      exact ⟨v, List.getElem?_set_self (by rw [re.1]; exact hl), h⟩
    · rw [List.getElem?_set_ne (Ne.symm hji)] at hj ⊢
      exact re.2.1 j y hj hy
  · by_cases hji : ξ.i = i
    · have hl : ξ.i < env.length := by
        have := (List.getElem?_eq_some_iff.mp h2).1
        simpa using this
      rw [hji] at h2 hl
      rw [List.getElem?_set_self hl] at h2
      cases h2
      rw [RV] at h
      exact h.elim
    · rw [List.getElem?_set_ne (Ne.symm hji)] at h2 ⊢
      exact re.2.2 ξ c fs h1 h2
/-- behind the first statement -/
theorem PostS.seq {D : Ends} {m1 m2 : Sx} (h : PostS K mg W xi ρ H D (sSeq m1 m2 env st)) : PostS K mg W xi ρ H { D with nx := tS K mg W xi m2 D } (m1 env st) := by
  unfold sSeq at h
  cases q : m1 env st with
  | nx e' s' =>
    rw [q] at h
    exact fun ρ1 H1 σ1 e1 rs1 re1 => ⟨ρ1, s', e', rs1, re1, PostS.mono (r := m2 e' s') h e1⟩
  | bk e' s' => rw [q] at h; exact h
  | ct e' s' => rw [q] at h; exact h
  | rt e' s' => rw [q] at h; exact h
  | er x e' s' => rw [q] at h; exact h
  | stuck => rw [q] at h; exact h
theorem simSs_nil : SimSs P w K mg base S [] sNil := fun X W hX tk => PSs.imp pss_nil fun D σ H ⟨ρ, st, env, rs, re, h⟩ => h ρ H σ .refl rs re
theorem simSs_cons (h1 : SimS P w K mg base S st1 sa) (h2 : SimSs P w K mg base S sts sb) : SimSs P w K mg base S (st1 :: sts) (sSeq sa sb) := fun X W hX tk =>
  PSs.imp (pss_cons (h1 X W hX tk) (h2 X W hX tk)) fun D σ H ⟨ρ, st, env, rs, re, h⟩ => ⟨ρ, st, env, rs, re, h.seq⟩
theorem simSs_one (h1 : SimS P w K mg base S st1 sa) : SimSs P w K mg base S [st1] sa := fun X W hX tk => pss_one (h1 X W hX tk)
theorem simS_pass : SimS P w K mg base S (.Pass pos) sNil := fun X W hX tk => PS.imp ps_pass fun D σ H ⟨ρ, st, env, rs, re, h⟩ => h ρ H σ .refl rs re
theorem simS_brk : SimS P w K mg base S (.Break pos) sBrk := fun X W hX tk => PS.imp ps_break fun D σ H ⟨ρ, st, env, rs, re, h⟩ => h ρ H σ .refl rs re
theorem simS_cnt : SimS P w K mg base S (.Continue pos) sCnt := fun X W hX tk => PS.imp ps_continue fun D σ H ⟨ρ, st, env, rs, re, h⟩ => h ρ H σ .refl rs re
theorem simS_expr (ha : SimE P w K mg base S a ma) (hs : ∀ env, swapsWith a none pos.line env = pure false) : SimS P w K mg base S (.Expr a pos) (sDrop ma) := fun X W hX tk =>
  PS.imp (ps_expr (ha X W hX tk) (hs _)) fun D σ H ⟨ρ, st, env, rs, re, h⟩ => ⟨ρ, st, env, rs, re, PostS.bind h re fun ρ1 H1 st1 x v _ e1 rs1 rv p1 => p1 ρ1 H1 σ .refl rs1 (re.mono e1)⟩
theorem simS_ret (ha : SimE P w K mg base S a ma) : SimS P w K mg base S (.Return (some a) pos) (sRet ma) := fun X W hX tk =>
  PS.imp (ps_ret (ha X W hX tk)) fun D σ H ⟨ρ, st, env, rs, re, h⟩ => ⟨ρ, st, env, rs, re, PostS.bind h re fun ρ1 H1 st1 x v _ e1 rs1 rv p1 => p1 ρ1 H1 v .refl rs1 rv⟩
theorem simS_retN : SimS P w K mg base S (.Return none pos) sRetN := fun X W hX tk => PS.imp ps_retN fun D σ H ⟨ρ, st, env, rs, re, h⟩ => h ρ H .non .refl rs (by rw [RV])
theorem simS_if {sx sy : List Stmt} (hc : SimT P w K mg base S c ta) (ha : SimSs P w K mg base S sx sa) (hb : SimSs P w K mg base S sy sb) : SimS P w K mg base S (.If c sx sy pos) (sIf ta sa sb) := fun X W hX tk =>
  PS.imp (ps_if (hc X W hX tk) (ha X W hX tk) (hb X W hX tk)) fun D σ H ⟨ρ, st, env, rs, re, h⟩ => ⟨ρ, st, env, rs, re, PostS.bind h re fun ρ1 H1 st1 x v _ e1 rs1 rv p1 => by
    cases rv
    cases x with
    | true => rw [if_pos rfl]; exact ⟨ρ1, st1, env, rs1, re.mono e1, p1⟩
    | false => rw [if_neg (by simp)]; exact ⟨ρ1, st1, env, rs1, re.mono e1, p1⟩⟩
/-! targets -/
theorem simG_name {i : Nat} {x : Str} (hN : S.N.Nodup) (hi : S.N[i]? = some x) (hx : Loc S.sc x) (hf : S.fn x = true ∨ S.sc.names.lookup x = some .local) : SimG P w K mg base S (.Name x pos) [i] (gNm i) := fun X hX =>
  PG.imp (pg_name (i := i) (by rw [← hX.N]; exact hN) (by rw [← hX.N]; exact hi) (by rw [← hX.scope]; exact hx) (by rw [← hX.scope]; exact hf.imp (hX.fn x) id)) fun v σ H Q ⟨ρ, st, env, x, rs, re, rv, h⟩ => h ρ H _ .refl rs (re.set rv) ⟨by simp, fun j hj => List.getElem?_set_ne (fun z => hj (by simp [z]))⟩
theorem simGs_nil : SimGs P w K mg base S [] [] gNil' := fun X hX => PGs.imp pgs_nil fun vs σ H Q ⟨ρ, st, env, xs, rs, re, rv, h⟩ => by
  cases xs with
  | nil => rw [RVs] at rv; exact ⟨rv, h ρ H σ .refl rs re ⟨rfl, fun _ _ => rfl⟩⟩
  | cons _ _ => exact h.elim
theorem simGs_cons {vs ws : List Nat} (h1 : SimG P w K mg base S a vs ga) (h2 : SimGs P w K mg base S es ws gs) (he : ∀ env, (assignEach (a :: es) env).map (·.2) = assign a env :: (assignEach es env).map (·.2)) : SimGs P w K mg base S (a :: es) (vs ++ ws) (gCons' ga gs) := fun X hX =>
  PGs.imp (pgs_cons (h1 X hX) (h2 X hX) (he _)) fun us σ H Q ⟨ρ, st, env, xs, rs, re, rv, h⟩ => by
    cases xs with
    | nil => exact h.elim
    | cons x r =>
      rw [RVs] at rv
      obtain ⟨v, r', rfl, h1, h2⟩ := rv
      refine ⟨v, r', rfl, ρ, st, env, x, rs, re, h1, ?_⟩
      have h' : PostG K mg S.xi (vs ++ ws) σ ρ H st Q ((ga x env).bind fun env' => gs r env') := h
      cases q : ga x env with
      | none => rw [q] at h'; exact h'
      | some env' =>
        rw [q] at h'
        refine fun ρ1 H1 σ1 e1 rs1 re1 g1 => ⟨ρ1, st, env', r, rs1, re1, h2.mono e1, ?_⟩
        have h'' : PostG K mg S.xi (vs ++ ws) σ ρ H st Q (gs r env') := h'
        cases q2 : gs r env' with
        | none => rw [q2] at h''; exact h''
        | some env2 =>
          rw [q2] at h''
          exact fun ρ2 H2 σ2 e2 rs2 re2 g2 => h'' ρ2 H2 σ2 (e1.trans e2) rs2 re2 ⟨g2.1.trans g1.1, fun j hj => (g2.2 j (fun z => hj (List.mem_append_right _ z))).trans (g1.2 j (fun z => hj (List.mem_append_left _ z)))⟩
theorem RV.seqT {x : Val} {xs : List Val} {v : V} (hx : x = .tup xs ∨ x = .kt xs) (h : RV K mg ρ H x v) : ∃ a vs, v = .ref a ∧ SqT K H a vs ∧ RVs K mg ρ H xs vs := by
  rcases hx with rfl | rfl
  · rw [RV] at h
    obtain ⟨a, vs, rfl, h1, h2⟩ := h
    exact ⟨a, vs, rfl, SqT.of h1, h2⟩
  · rw [RV] at h
    obtain ⟨a, vs, rfl, h1, h2⟩ := h
    exact ⟨a, vs, rfl, .inr h1, h2⟩
theorem simG_tup {k n : Nat} {vs : List Nat} (hc : S.calm = true) (h : SimGs P w K mg base S es vs gs) (hl : ∀ env, (assignEach es env).length = n) (hs : ∀ env, (assignEach es env).findIdx? (·.1) = none) :
    SimG P w K mg base S (.Tuple es k pos) vs (gTup' n gs) := fun X hX => by
  refine PG.imp (pg_tup (n := n) (by rw [← hX.calm]; exact hc) (h X hX) (hl _) (hs _)) fun v σ H Q ⟨ρ, st, env, x, rs, re, rv, h⟩ => ?_
  obtain ⟨xs, hx, hn, h'⟩ : ∃ xs, (x = .tup xs ∨ x = .kt xs) ∧ xs.length = n ∧ PostG K mg S.xi vs σ ρ H st Q (gs xs env) := by
    unfold gTup' at h
    split at h
    · split at h
      · exact ⟨_, .inl rfl, by assumption, h⟩
      · exact h.elim
    · split at h
      · exact ⟨_, .inr rfl, by assumption, h⟩
      · exact h.elim
    · exact h.elim
  obtain ⟨a, us, rfl, h1, h2⟩ := rv.seqT hx
  refine ⟨a, us, rfl, by rw [← hX.K]; exact h1, by rw [h2.length]; exact hn, ρ, st, env, xs, rs, re, h2, h'⟩
/-! assignments -/
theorem simS_asg {tg : Expr} {gv : List Nat} (ha : SimE P w K mg base S a ma) (hg : SimG P w K mg base S tg gv ga) (hs : ∀ env, swapsWithSole [tg] a pos.line env = pure false) (hw : ∀ env : PySem.Env, env.scope = S.sc → swappedStores [tg] a env = pure none)
    (h1 : ∀ env, (assignEach [tg] env).map (·.2) = [assign tg env]) : SimS P w K mg base S (.Assign [tg] a pos) (sAsg ma ga) := fun X W hX tk =>
  PS.imp (ps_asg (ha X W hX tk) (hg X hX) (hs _) (hw _ hX.scope.symm) (h1 _)) fun D σ H ⟨ρ, st, env, rs, re, h⟩ => ⟨ρ, st, env, rs, re, PostS.bind h re fun ρ1 H1 st1 x v _ e1 rs1 rv p1 => ⟨ρ1, st1, env, x, rs1, re.mono e1, rv, by
    cases q : ga x env with
    | none => rw [q] at p1; exact p1.elim
    | some env' => rw [q] at p1; exact fun ρ2 H2 σ2 e2 rs2 re2 _ => p1 ρ2 H2 σ2 e2 rs2 re2⟩⟩
theorem simS_set {i : Nat} {x : Str} (hN : S.N.Nodup) (hi : S.N[i]? = some x) (hx : Loc S.sc x) (hf : S.fn x = true ∨ S.sc.names.lookup x = some .local) (ha : SimE P w K mg base S a ma) (hs : ∀ env, swapsWith a (some (.Name x pos')) pos.line env = pure false) :
    SimS P w K mg base S (.Assign [.Name x pos'] a pos) (sAsg ma (gNm i)) := fun X W hX tk =>
  PS.imp (ps_set (i := i) (by rw [← hX.N]; exact hN) (by rw [← hX.N]; exact hi) (by rw [← hX.scope]; exact hx) (ha X W hX tk) (hs _) (by rw [← hX.scope]; exact hf.imp (hX.fn x) id)) fun D σ H ⟨ρ, st, env, rs, re, h⟩ =>
    ⟨ρ, st, env, rs, re, PostS.bind h re fun ρ1 H1 st1 x v _ e1 rs1 rv p1 => p1 ρ1 H1 _ .refl rs1 ((re.mono e1).set rv)⟩
theorem simS_par {i j : Nat} {x y : Str} {px py pt : Pos} {kt k2 pt2} (hc : S.calm = true) (hN : S.N.Nodup) (hi : S.N[i]? = some x) (hj : S.N[j]? = some y) (hij : i ≠ j) (hx : S.sc.names.lookup x = some .local) (hy : S.sc.names.lookup y = some .local) (ha : SimA P w K mg base S [a, b] aa)
    (hw : ∀ env : PySem.Env, env.scope = S.sc → swappedStores [.Tuple [.Name x px, .Name y py] kt pt] (.Tuple [a, b] k2 pt2) env = pure (some [x, y]))
    (hs : ∀ env, swapsWithSole [.Tuple [.Name x px, .Name y py] kt pt] (.Tuple [a, b] k2 pt2) pos.line env = pure false) :
    SimS P w K mg base S (.Assign [.Tuple [.Name x px, .Name y py] kt pt] (.Tuple [a, b] k2 pt2) pos) (sPar i j aa) := fun X W hX tk =>
  PS.imp (ps_par (i := i) (j := j) (by rw [← hX.calm]; exact hc) (by rw [← hX.N]; exact hN) (by rw [← hX.N]; exact hi) (by rw [← hX.N]; exact hj) hij (by rw [← hX.scope]; exact hx) (by rw [← hX.scope]; exact hy) (ha X W hX tk) (hw _ hX.scope.symm) (hs _)) fun D σ H ⟨ρ, st, env, rs, re, h⟩ =>
    ⟨ρ, st, env, rs, re, PostS.bind h re fun ρ1 H1 st1 xs vs _ e1 rs1 rvs p1 => by
      match xs, rvs, p1 with
      | [x1, x2], rvs, p1 =>
        rw [RVs] at rvs
        obtain ⟨v1, r1, rfl, q1, rvs⟩ := rvs
        rw [RVs] at rvs
        obtain ⟨v2, r2, rfl, q2, rvs⟩ := rvs
        rw [RVs] at rvs
        subst rvs
        exact ⟨v1, v2, rfl, p1 ρ1 H1 _ .refl rs1 (((re.mono e1).set q1).set q2)⟩
      | [], _, p1 => exact p1.elim
      | [_], _, p1 => exact p1.elim
      | _ :: _ :: _ :: _, _, p1 => exact p1.elim⟩
theorem simS_aug {i : Nat} {x : Str} {op : Operator} (ho : IpOk P w K mg base S op o) (hN : S.N.Nodup) (hi : S.N[i]? = some x) (hx : Loc S.sc x) (hf : S.fn x = true ∨ S.sc.names.lookup x = some .local) (ha : SimE P w K mg base S a ma) :
    SimS P w K mg base S (.AugAssign (.Name x pos') op a pos) (sAug i o ma) := fun X W hX tk => by
  obtain ⟨r, h1, h2⟩ := ho X hX
  refine PS.imp (ps_aug (i := i) (by rw [← hX.N]; exact hN) (by rw [← hX.N]; exact hi) (by rw [← hX.scope]; exact hx) (ha X W hX tk) h1 (by rw [← hX.scope]; exact hf.imp (hX.fn x) id)) fun D σ H ⟨ρ, st, env, rs, re, h⟩ => ?_
  unfold sAug at h
  split at h
  · exact h.elim
  · rename_i x0 hne he
    obtain ⟨v0, hv0, rv0'⟩ := re.2.1 i x0 he hne
    refine ⟨v0, hv0, ρ, st, env, rs, re, PostS.bind h re fun ρ1 H1 st1 y u _ e1 rs1 ru p1 => ?_⟩
    exact h2 ρ1 H1 st1 x0 y v0 u W σ _ rs1 (rv0'.mono e1) ru (PostS.bind p1 (re.mono e1) fun ρ2 H2 st2 z uz _ e2 rs2 rz p2 => p2 ρ2 H2 _ .refl rs2 (((re.mono e1).mono e2).set rz))
  · exact h.elim
/-- a field's store at an instance of the store -/
theorem RS.putF {l : Nat} {a : Addr} {c : Str} {al : List Str} {fs : List (Str × Val)} {f : Str} {x : Val} {v : V} (rs : RS K mg ρ H st) (ha : ρ[l]? = some a) (ho : st[l]? = some (.ins c al fs)) (hf : al.contains f = true) (rv : RV K mg ρ H x v) :
    ∃ C dx ps, mg c = some (.ref C) ∧ Cls K C ∧ NoAttr K C f ∧ H a = some (.ins C dx ps) ∧ RPs K mg ρ H fs ps ∧ (∀ g ∈ al, NoAttr K C g) ∧ RS K mg ρ (upd H a (.ins C dx (L2.putF f v ps))) (st.set l (.ins c al (putV f x fs))) ∧ Ext ρ H ρ (upd H a (.ins C dx (L2.putF f v ps))) := by
  obtain ⟨C, dx, ps, h1, h2, h3, h4, h5, h6⟩ := rs.at ho ha
  have hm : f ∈ al := List.contains_iff_mem.mp hf
  have ex : Ext ρ H ρ (upd H a (.ins C dx (L2.putF f v ps))) := rs.ext ha
  refine ⟨C, dx, ps, h1, h2, h3 f hm, h4, h5, h3, rs.set ha ⟨C, dx, _, h1, h2, h3, upd_same, (RPs.put rv h5).mono ex, fun p hp => ?_⟩, ex⟩
  rcases mem_putV hp with e | ⟨q, hq, e⟩
  · rw [e]; exact hm
  · rw [← e]; exact h6 q hq
theorem simS_fld {f : Str} (ho : SimE P w K mg base S b mb) (ha : SimE P w K mg base S a ma) (hs : ∀ env, swapsWith a (some (.Attribute b f pos')) pos.line env = pure false) : SimS P w K mg base S (.Assign [.Attribute b f pos'] a pos) (sFldS f mb ma) := fun X W hX tk =>
  PS.imp (ps_fld (ho X W hX tk) (ha X W hX tk) (hs _)) fun D σ H ⟨ρ, st, env, rs, re, h⟩ => ⟨ρ, st, env, rs, re, PostS.bind h re fun ρ1 H1 st1 x v _ e1 rs1 rv p1 =>
    ⟨ρ1, st1, env, rs1, re.mono e1, PostS.bind p1 (re.mono e1) fun ρ2 H2 st2 y u _ e2 rs2 ru p2 => by
      cases y with
      | loc l =>
        rw [RV] at ru
        obtain ⟨p, rfl, hp⟩ := ru
        simp only at p2
        split at p2
        · rename_i c al fs hst
          split at p2
          · rename_i hcond
            obtain ⟨C, dx, ps, h1, h2, h3, h4, h5, h6, h7, h8⟩ := rs2.putF hp hst hcond.1 (rv.mono e2)
            refine ⟨p, C, dx, ps, rfl, h4, by rw [← hX.K]; exact h2, by rw [← hX.K]; exact h3, by rw [h5.length]; exact hcond.2, ?_⟩
            exact p2 ρ2 _ σ h8 h7 (((re.mono e1).mono e2).mono h8)
          · exact p2.elim
        · exact p2.elim
      | _ => exact p2.elim⟩⟩
end
end Sm

/-! The Sim layer, part 4: loops, stores, try, raise. -/
namespace Sm
open PySem L2

/-- what a loop walks: its items, the objects that must stand -/
abbrev Ix := Env → Sto → R (List Val × List (Nat × Ob))
section
variable (K : PySem.W.Frag) (mg : Str → Option Value)
def relI : List Addr → Hp → (List Val × List (Nat × Ob)) → It → Prop := fun ρ H xg J =>
  ∀ ρ' H' st', Ext ρ H ρ' H' → RS K mg ρ' H' st' → (∀ p ∈ xg.2, st'[p.1]? = some p.2) →
    (∀ i, xg.1.length ≤ i → J.stop i H') ∧ ∀ (i : Nat) x, xg.1[i]? = some x → J.go i H' ∧ ∀ v H'', J.yld i H' v H'' → Ext ρ' H' ρ' H'' ∧ RS K mg ρ' H'' st' ∧ RV K mg ρ' H'' x v
def tI (W : WX) (xi : Option XI) (m : Ix) : TI := fun σ H Q => ∃ ρ st env, RS K mg ρ H st ∧ RE K mg ρ H xi env σ ∧ Post K mg (relI K mg) W ρ H σ Q (m env st)
end
section
variable (P : Program) (w : World) (K : PySem.W.Frag) (mg : Str → Option Value) (base : Heap) (S : Sc)
def SimI (tg iter : Expr) (m : Ix) : Prop := ∀ X W, XOk P w K mg base S X → Takes X W → PI X tg iter (tI K mg W S.xi m)
end
theorem PI.imp {X : Cx} {tg e : Expr} {t t' : TI} (h : PI X tg e t) (f : ∀ σ H Q, t' σ H Q → t σ H Q) : PI X tg e t' := ⟨fun pins s σ H R I q => h.run pins s σ H R I (f _ _ _ q)⟩
open Classical in
/-- the turns of a for -/
noncomputable def forL (gd : List (Nat × Ob)) (g : Gx) (b : Sx) : List Val → Env → Sto → SR
  | [], env, st => if ∀ p ∈ gd, st[p.1]? = some p.2 then .nx env st else .stuck
  | x :: r, env, st => if ∀ p ∈ gd, st[p.1]? = some p.2 then onG (g x env) fun env1 => match b env1 st with
    | .nx e s => forL gd g b r e s
    | .ct e s => forL gd g b r e s
    | .bk e s => .nx e s
    | q => q else .stuck
noncomputable def sFor (m : Ix) (g : Gx) (b : Sx) : Sx := fun env st => (m env st).to env fun xg st1 => forL xg.2 g b xg.1 env st1
def whileN (c : Tx) (b : Sx) : Nat → Env → Sto → SR
  | 0, _, _ => .stuck
  | n + 1, env, st => (c env st).to env fun q st1 => if q then (match b env st1 with
    | .nx e s => whileN c b n e s
    | .ct e s => whileN c b n e s
    | .bk e s => .nx e s
    | r => r) else .nx env st1
/-- enough turns for any while here -/
def fuel : Nat := 2 ^ 80
def sWhile (c : Tx) (b : Sx) : Sx := fun env st => whileN c b fuel env st

section
variable {P : Program} {w : World} {K : PySem.W.Frag} {mg : Str → Option Value} {base : Heap} {S : Sc}
variable {e a b c : Expr} {es : List Expr} {st1 : Stmt} {sts body : List Stmt} {ma mb mc : Ex} {ta tb : Tx} {aa ab : Ax} {sa sb : Sx} {pos pos' : Pos} {o o' : Val → Val → Sto → R Val} {ga : Gx} {gs : Gxs} {mi : Ix}
variable {ρ ρ' : List Addr} {H H' : Hp} {W : WX} {σ : L2.St} {st : Sto} {xi : Option XI} {env : Env}

theorem simS_for {tg iter : Expr} {gv : List Nat} (hc : S.calm = true) (hi : SimI P w K mg base S tg iter mi) (hg : SimG P w K mg base S tg gv ga) (hb : SimSs P w K mg base S body sb) (hs : ∀ env x, foldedSetIterable iter env x = pure x) :
    SimS P w K mg base S (.For tg iter body [] pos) (sFor mi ga sb) := fun X W hX tk => by
  refine PS.imp (ps_for hX.passes (by rw [← hX.calm]; exact hc) (hi X W hX tk) (hg X hX) (hb X W hX tk) (hs _)) fun D σ H ⟨ρ, st, env, rs, re, h⟩ => ?_
  refine ⟨ρ, st, env, rs, re, PostS.bind h re fun ρ1 H1 st1 xg J _ e1 rs1 rI p1 => ?_⟩
  have re1 := re.mono e1
  refine ⟨fun i m σ' H' => ∃ ρ' st' env', Ext ρ1 H1 ρ' H' ∧ RS K mg ρ' H' st' ∧ RE K mg ρ' H' S.xi env' σ' ∧ m = xg.1.length - i ∧ i ≤ xg.1.length ∧ PostS K mg W S.xi ρ' H' D (forL xg.2 ga sb (xg.1.drop i) env' st'),
    ⟨xg.1.length, ρ1, st1, env, .refl, rs1, re1, by simp, by simp, by simpa using p1⟩, ?_⟩
  rintro i m σ' H' ⟨ρ', st', env', e', rs', re', rfl, hi, p'⟩
  by_cases hlt : i < xg.1.length
  · right
    have hx : xg.1[i]? = some xg.1[i] := List.getElem?_eq_getElem hlt
    rw [List.drop_eq_getElem_cons hlt] at p'
    unfold forL at p'
    split at p'
    · rename_i hgd
      obtain ⟨h1, h2⟩ := (rI ρ' H' st' e' rs' hgd).2 i _ hx
      refine ⟨h1, fun σ2 H2 => ∃ ρ2 st2 env2, Ext ρ1 H1 ρ2 H2 ∧ RS K mg ρ2 H2 st2 ∧ RE K mg ρ2 H2 S.xi env2 σ2 ∧ PostS K mg W S.xi ρ2 H2 D (forL xg.2 ga sb (xg.1.drop (i + 1)) env2 st2), ?_, fun v H'' hy => ?_⟩
      · rintro σ2 H2 ⟨ρ2, st2, env2, e2, rs2, re2, p2⟩
        exact ⟨xg.1.length - (i + 1), by omega, ρ2, st2, env2, e2, rs2, re2, rfl, by omega, p2⟩
      · obtain ⟨f1, f2, f3⟩ := h2 v H'' hy
        refine ⟨ρ', st', env', xg.1[i], f2, re'.mono f1, f3, ?_⟩
        cases q : ga xg.1[i] env' with
        | none => rw [q] at p'; exact p'.elim
        | some env1 =>
          rw [q] at p'
          simp only [onG_some] at p'
          refine fun ρ2 H2 σ2 e2 rs2 re2 _ => ⟨ρ2, st', env1, rs2, re2, ?_⟩
          have ee := f1.trans e2
          cases q2 : sb env1 st' with
          | nx e3 s3 => rw [q2] at p'; exact fun ρ3 H3 σ3 e4 rs3 re3 => ⟨ρ3, s3, e3, (e'.trans ee).trans e4, rs3, re3, PostS.mono p' (ee.trans e4)⟩
          | ct e3 s3 => rw [q2] at p'; exact fun ρ3 H3 σ3 e4 rs3 re3 => ⟨ρ3, s3, e3, (e'.trans ee).trans e4, rs3, re3, PostS.mono p' (ee.trans e4)⟩
          | bk e3 s3 => rw [q2] at p'; exact PostS.mono (r := .nx e3 s3) p' ee
          | rt v3 s3 => rw [q2] at p'; exact PostS.mono (r := .rt v3 s3) p' ee
          | er x3 e3 s3 => rw [q2] at p'; exact PostS.mono (r := .er x3 e3 s3) p' ee
          | stuck => rw [q2] at p'; exact p'.elim
    · exact p'.elim
  · left
    rw [List.drop_eq_nil_of_le (by omega)] at p'
    unfold forL at p'
    split at p'
    · rename_i hgd
      exact ⟨(rI ρ' H' st' e' rs' hgd).1 i (by omega), p' ρ' H' σ' .refl rs' re'⟩
    · exact p'.elim
theorem simS_while {c : Expr} (hc : SimT P w K mg base S c ta) (hb : SimSs P w K mg base S body sb) : SimS P w K mg base S (.While c body [] pos) (sWhile ta sb) := fun X W hX tk => by
  refine PS.imp (ps_while hX.passes (hc X W hX tk) (hb X W hX tk)) fun D σ H ⟨ρ, st, env, rs, re, h⟩ => ?_
  refine ⟨fun m σ' H' => ∃ ρ' st' env', RS K mg ρ' H' st' ∧ RE K mg ρ' H' S.xi env' σ' ∧ PostS K mg W S.xi ρ' H' D (whileN ta sb m env' st'), ⟨fuel, ρ, st, env, rs, re, h⟩, ?_⟩
  rintro m σ' H' ⟨ρ', st', env', rs', re', p'⟩
  cases m with
  | zero => exact p'.elim
  | succ m =>
    unfold whileN at p'
    refine ⟨ρ', st', env', rs', re', PostS.bind p' re' fun ρ1 H1 st1 x v _ e1 rs1 rv p1 => ?_⟩
    cases rv
    cases x with
    | false => rw [if_neg (by simp)]; exact p1 ρ1 H1 σ' .refl rs1 (re'.mono e1)
    | true =>
      rw [if_pos rfl]
      refine ⟨fun σ2 H2 => ∃ ρ2 st2 env2, RS K mg ρ2 H2 st2 ∧ RE K mg ρ2 H2 S.xi env2 σ2 ∧ PostS K mg W S.xi ρ2 H2 D (whileN ta sb m env2 st2), fun σ2 H2 h2 => ⟨m, Nat.lt_succ_self m, h2⟩, ρ1, st1, env', rs1, re'.mono e1, ?_⟩
      rw [if_pos rfl] at p1
      cases q2 : sb env' st1 with
      | nx e3 s3 => rw [q2] at p1; exact fun ρ3 H3 σ3 e4 rs3 re3 => ⟨ρ3, s3, e3, rs3, re3, PostS.mono p1 e4⟩
      | ct e3 s3 => rw [q2] at p1; exact fun ρ3 H3 σ3 e4 rs3 re3 => ⟨ρ3, s3, e3, rs3, re3, PostS.mono p1 e4⟩
      | bk e3 s3 => rw [q2] at p1; exact p1
      | rt v3 s3 => rw [q2] at p1; exact p1
      | er x3 e3 s3 => rw [q2] at p1; exact p1
      | stuck => rw [q2] at p1; exact p1.elim

/-! ### what is walked -/
/-- a list of the store, a tuple, the script -/
def iSeq (a : Ex) : Ix := fun env st => (a env st).bind fun x st1 => match x with
  | .tup xs => .ok (xs, []) st1
  | .kt xs => .ok (xs, []) st1
  | .scr ns => .ok (ns.map Val.int, []) st1
  | .loc l => match st1[l]? with
    | some (.lst xs) => .ok (xs, [(l, .lst xs)]) st1
    | _ => .stuck
  | _ => .stuck
/-- the two walks joined -/
theorem PI.or {X : Cx} {tg it : Expr} {t u : TI} (h1 : PI X tg it t) (h2 : PI X tg it u) : PI X tg it (fun σ H R => t σ H R ∨ u σ H R) := ⟨fun pins s σ H R I h => h.elim (h1.run pins s σ H R I) (h2.run pins s σ H R I)⟩
theorem relI_lst {l : Nat} {a : Addr} {xs : List Val} (ha : ρ[l]? = some a) : relI K mg ρ H (xs, [(l, .lst xs)]) (Itl K a) := fun ρ' H' st' e rs g => by
  obtain ⟨vs, h1, h2⟩ := rs.at (g (l, .lst xs) (by simp)) (e.at ha)
  refine ⟨fun i hi => ⟨vs, SqL.of h1, by rw [h2.length]; exact hi⟩, fun i x hx => ?_⟩
  obtain ⟨v, hv, rv⟩ := h2.get hx
  refine ⟨⟨vs, v, SqL.of h1, hv⟩, ?_⟩
  rintro v' H'' ⟨rfl, hy⟩
  have := hy vs (SqL.of h1)
  rw [hv] at this
  cases this
  exact ⟨.refl, rs, rv⟩
theorem relI_scr {a : Addr} {ns : List Int} (ha : SqF K H a (ns.map V.int)) : relI K mg ρ H (ns.map Val.int, []) (Itl K a) := fun ρ' H' st' e rs g => by
  have h1 := (e.sqF ha).sq
  refine ⟨fun i hi => ⟨_, h1, by simpa using hi⟩, fun i x hx => ?_⟩
  obtain ⟨v, hv, rv⟩ := (RVs.ints (K := K) (mg := mg) (ρ := ρ') (H := H') (ns := ns)).get hx
  refine ⟨⟨_, v, h1, hv⟩, ?_⟩
  rintro v' H'' ⟨rfl, hy⟩
  have := hy _ h1
  rw [hv] at this
  cases this
  exact ⟨.refl, rs, rv⟩
theorem relI_tup {a : Addr} {vs : List V} {xs : List Val} (hT : SqT K H a vs) (hv : RVs K mg ρ H xs vs) : relI K mg ρ H (xs, []) (Itt K a) := fun ρ' H' st' e rs g => by
  have h1 := e.sqT hT
  have h2 := hv.mono e
  refine ⟨fun i hi => ⟨vs, h1, by rw [h2.length]; exact hi⟩, fun i x hx => ?_⟩
  obtain ⟨v, hv, rv⟩ := h2.get hx
  refine ⟨⟨vs, v, h1, hv⟩, ?_⟩
  rintro v' H'' ⟨rfl, hy⟩
  have := hy vs h1
  rw [hv] at this
  cases this
  exact ⟨.refl, rs, rv⟩
/-- where an expression's value is known ahead -/
theorem tE_ok {ma : Ex} {Q : VK} {x : Val} {st2 : Sto} (rs : RS K mg ρ H st) (re : RE K mg ρ H xi env σ) (hm : ma env st = .ok x st2)
    (h : ∀ ρ1 H1 v, Ext ρ H ρ1 H1 → RS K mg ρ1 H1 st2 → RV K mg ρ1 H1 x v → Q v H1) : tE K mg W xi ma σ H Q := ⟨ρ, st, env, rs, re, by rw [hm]; exact h⟩
theorem simI_seq {tg : Expr} (ha : SimE P w K mg base S a ma) : SimI P w K mg base S tg a (iSeq ma) := fun X W hX tk =>
  PI.imp (PI.or (pi_list (ha X W hX tk)) (pi_tup (ha X W hX tk))) fun σ H R ⟨ρ, st, env, rs, re, h⟩ => by
    unfold iSeq at h
    have eK := hX.K
    subst eK
    cases q : ma env st with
    | stuck => rw [q] at h; exact h.elim
    | err x st2 => rw [q] at h; exact .inl ⟨ρ, st, env, rs, re, by rw [q]; exact h⟩
    | ok x st2 =>
      rw [q] at h
      cases x with
      | tup xs =>
        refine .inr (tE_ok rs re q fun ρ1 H1 v e1 rs1 rv => ?_)
        obtain ⟨a, vs, rfl, h1, h2⟩ := rv.seqT (.inl rfl)
        exact ⟨a, rfl, ⟨vs, h1⟩, h ρ1 H1 _ e1 rs1 (relI_tup h1 h2)⟩
      | kt xs =>
        refine .inr (tE_ok rs re q fun ρ1 H1 v e1 rs1 rv => ?_)
        obtain ⟨a, vs, rfl, h1, h2⟩ := rv.seqT (.inr rfl)
        exact ⟨a, rfl, ⟨vs, h1⟩, h ρ1 H1 _ e1 rs1 (relI_tup h1 h2)⟩
      | scr ns =>
        refine .inl (tE_ok rs re q fun ρ1 H1 v e1 rs1 rv => ?_)
        rw [RV] at rv
        obtain ⟨a, rfl, h1⟩ := rv
        exact ⟨a, rfl, ⟨_, h1.sq⟩, h ρ1 H1 _ e1 rs1 (relI_scr h1)⟩
      | loc l =>
        refine .inl (tE_ok rs re q fun ρ1 H1 v e1 rs1 rv => ?_)
        rw [RV] at rv
        obtain ⟨a, rfl, h1⟩ := rv
        have h' : Post _ mg (relI _ mg) W ρ H σ R (match st2[l]? with | some (.lst xs) => .ok (xs, [(l, .lst xs)]) st2 | _ => .stuck) := h
        split at h'
        · rename_i xs hst
          obtain ⟨vs, h2, h3⟩ := rs1.at hst h1
          exact ⟨a, rfl, ⟨vs, SqL.of h2⟩, h' ρ1 H1 _ e1 rs1 (relI_lst h1)⟩
        · exact h'.elim
      | _ => exact h.elim
/-- range(n), range(a, b) -/
def iRange1 (a : Ex) : Ix := fun env st => (a env st).bind fun x st1 => match x with
  | .int j => if -(2 ^ 62) ≤ j ∧ j < 2 ^ 62 then .ok ((List.range j.toNat).map fun (i : Nat) => Val.int (i : Int), []) st1 else .stuck
  | _ => .stuck
def iRange2 (a b : Ex) : Ix := fun env st => (a env st).bind fun x st1 => (b env st1).bind fun y st2 => match x, y with
  | .int i, .int j => if -(2 ^ 62) ≤ i ∧ i < 2 ^ 62 ∧ -(2 ^ 62) ≤ j ∧ j < 2 ^ 62 then .ok ((List.range (j - i).toNat).map fun (k : Nat) => Val.int (i + (k : Int)), []) st2 else .stuck
  | _, _ => .stuck
theorem relI_range {lo : Int} {n : Nat} {f : Nat → Val} (hf : ∀ k, f k = .int (lo + (k : Int))) : relI K mg ρ H ((List.range n).map f, []) (Itr lo n) := fun ρ' H' st' e rs g => by
  refine ⟨fun i hi => (show n ≤ i by simpa using hi), fun i x hx => ?_⟩
  have hi : i < n := by
    have := (List.getElem?_eq_some_iff.mp hx).1
    simpa using this
  refine ⟨hi, ?_⟩
  rintro v H'' ⟨rfl, rfl⟩
  rw [List.getElem?_map, List.getElem?_range hi] at hx
  cases hx
  rw [hf]
  exact ⟨.refl, rs, by rw [RV]⟩
theorem simI_range1 {tg : Expr} {p : Pos} (hg : S.sc.names.lookup ("range" : Str) = some .globalImplicit) (hm : mg "range" = none) (ha : SimE P w K mg base S a ma) (hs : ∀ env, starEach [a] env = [(false, eval a env)]) : SimI P w K mg base S tg (.Call (.Name "range" p) [a] [] pos) (iRange1 ma) := fun X W hX tk =>
  PI.imp (pi_range1 (show X.env.scope.names.lookup ("range" : Str) = _ by rw [← hX.scope]; exact hg) (by rw [← hX.mg]; exact hm) (pa_cons (ha X W hX tk) pa_nil (hs _)) (hs _)) fun σ H R ⟨ρ, st, env, rs, re, h⟩ => ⟨ρ, st, env, rs, re, Post.bind h fun ρ1 H1 st1 x v _ e1 rs1 rv p1 => by
    cases x with
    | int j =>
      rw [RV] at rv
      subst rv
      simp only at p1
      split at p1
      · rename_i hj
        exact ⟨j, rfl, hj.1, hj.2, p1 ρ1 H1 _ .refl rs1 (relI_range (lo := 0) fun k => by simp)⟩
      · exact p1.elim
    | _ => exact p1.elim⟩
theorem simI_range2 {tg : Expr} {p : Pos} (hg : S.sc.names.lookup ("range" : Str) = some .globalImplicit) (hm : mg "range" = none) (ha : SimE P w K mg base S a ma) (hb : SimE P w K mg base S b mb) (hs : ∀ env, starEach [a, b] env = [(false, eval a env), (false, eval b env)]) (hs2 : ∀ env, starEach [b] env = [(false, eval b env)]) :
    SimI P w K mg base S tg (.Call (.Name "range" p) [a, b] [] pos) (iRange2 ma mb) := fun X W hX tk =>
  PI.imp (pi_range2 (show X.env.scope.names.lookup ("range" : Str) = _ by rw [← hX.scope]; exact hg) (by rw [← hX.mg]; exact hm) (pa_cons (ha X W hX tk) (pa_cons (hb X W hX tk) pa_nil (hs2 _)) (by rw [hs, hs2])) (hs _) (hs2 _)) fun σ H R ⟨ρ, st, env, rs, re, h⟩ => ⟨ρ, st, env, rs, re, Post.bind h fun ρ1 H1 st1 x v _ e1 rs1 rv p1 =>
    ⟨ρ1, st1, env, rs1, re.mono e1, Post.bind p1 fun ρ2 H2 st2 y u _ e2 rs2 ru p2 => by
      have rv2 := rv.mono e2
      cases x with
      | int i =>
        cases y with
        | int j =>
          rw [RV] at rv2 ru
          subst rv2 ru
          simp only at p2
          split at p2
          · rename_i hj
            exact ⟨i, j, rfl, hj, p2 ρ2 H2 _ .refl rs2 (relI_range fun k => rfl)⟩
          · exact p2.elim
        | _ => exact p2.elim
      | _ => exact p2.elim⟩⟩
end
end Sm

/-! The Sim layer: enumerate of a tuple, by turns. -/
namespace PySem
open PyProof.Rows
theorem sm_enumerate_newT {v : Value} {o : Obj} {H : Heap → Prop} (B : Begins v o H) :
    Meets (Builtin.«enumerate.__new__» ⟨[.type "enumerate", v], []⟩) (fun _ R s => H s.heap ∧
      R (.ok (.ret (.ref (s.heap.push o).objs.size))) { s with heap := (s.heap.push o).push { cls := .type "enumerate", data := .fields #[.none, .bool false, .ref s.heap.objs.size, rawInt 0, .none, .none] } }) :=
  .of_wp fun prog w A R s h => by
    obtain ⟨hp, g, d, tk, os⟩ := s; obtain ⟨h1, h⟩ := h
    have hsub := sub_enumerate
    have q1 : ∀ {A' : Around} {E : Value → Shared → Prop} {Q : Value → Shared → Prop}, Q (.ref hp.objs.size) ⟨hp.push o, g, d, tk, os⟩ → wpAny (model prog w) A' (pyIter v) Q E ⟨hp, g, d, tk, os⟩ :=
      fun q => B.iter prog w _ _ ⟨hp, g, d, tk, os⟩ _ h1 q
    wp_walk using q1
    refine wpAny_stack_any fun st => wpAny_pure ?_
    split
    · rename_i c _ _ _ _ _
      cases (c == Value.type "enumerate")
      · wp_walk using q1
        exact ⟨_, rfl, h⟩
      · wp_walk using q1
        exact ⟨_, rfl, h⟩
    · wp_walk using q1
      exact ⟨_, rfl, h⟩
section
variable {prog : Program} {w : World} {A : Around} {E : Value → Shared → Prop} {s : Shared}
theorem sm_call_enumerate {v : Value} {o : Obj} {H : Heap → Prop} {Q : Value → Shared → Prop} (B : Begins v o H) (h1 : H s.heap)
    (h : ∀ h', IsEnum h' (s.heap.objs.size + 1) s.heap.objs.size 0 .none → h'.get? s.heap.objs.size = some o → h'.objs.size = s.heap.objs.size + 2 →
      (∀ b o, s.heap.get? b = some o → h'.get? b = some o) → Q (.ref (s.heap.objs.size + 1)) { s with heap := h' }) :
    wpAny (model prog w) A (call (.type "enumerate") [v]) Q E s := by
  refine callType_new F.called_enumerate (by decide) (F.typeCall_enumerate_1 _) (F.newCall_enumerate_1 _) (fun obj => F.args_object_init_2 obj _) F.entry_enumerate_new
    (sm_enumerate_newT B) ⟨h1, ?_⟩
  have hz : (s.heap.push o).objs.size = s.heap.objs.size + 1 := Heap.size_push ..
  show _ ∧ _
  rw [hz]
  have he : IsEnum ((s.heap.push o).push { cls := .type "enumerate", data := .fields #[.none, .bool false, .ref s.heap.objs.size, rawInt 0, .none, .none] }) (s.heap.objs.size + 1) s.heap.objs.size 0 .none := by
    have := Heap.get?_push_size (s.heap.push o) (o := { cls := .type "enumerate", data := .fields #[.none, .bool false, .ref s.heap.objs.size, rawInt 0, .none, .none] }) rfl
    rw [hz] at this; exact this
  exact ⟨⟨_, he, rfl⟩, h _ he (Heap.get?_push_of_some _ (Heap.get?_push_size _ B.free)) (by rw [Heap.size_push, hz]) fun b o x => Heap.get?_push_of_some _ (Heap.get?_push_of_some _ x)⟩
end
end PySem
namespace Sm
open PySem L2 PyProof.Rows
/-- the tuple at a, each item in a new pair -/
def IteT (K : PySem.W.Frag) (a : Addr) : It :=
  ⟨fun i H => ∃ (xs : List V) (x : V), SqT K H a xs ∧ xs[i]? = some x, fun i H v H' => ∃ T x, v = .ref T ∧ H T = none ∧ H' = upd H T (.tup [.int (i : Nat), x]) ∧ ∀ xs, SqT K H a xs → xs[i]? = some x, fun i H => ∃ xs : List V, SqT K H a xs ∧ xs.length ≤ i⟩
theorem turn_enumT {P : Program} {w : World} {K : PySem.W.Frag} {elts : List Expr} {kk : Nat} {tpos : Pos} (a e it : Addr) :
    Turn P w K (.Tuple elts kk tpos) (IteT K a) [e, it] e (fun i h => (∃ old, IsEnum h e it ((i : Nat) : Int) old) ∧ h.IsTupleIter it a i ∧ e ≠ it) where
  mem := by simp
  obj := fun i h st b hb => by
    obtain ⟨⟨old, he⟩, ⟨o, ho, hc, hd⟩, _⟩ := st
    have e' : b = e ∨ b = it := by simpa using hb
    rcases e' with z | z
    · rw [z]; exact ⟨_, he, fun v q => nomatch q⟩
    · rw [z]; exact ⟨o, ho, fun v q => by rw [hd] at q; cases q⟩
  keep := fun i h h' st k => let ⟨⟨old, he⟩, hi, hne⟩ := st; ⟨⟨old, k e (by simp) _ he⟩, hi.at fun o q => k it (by simp) o q, hne⟩
  item := by
    intro X hP hw hK hc i pins s σ H E I hf st hg
    subst hP hw hK
    obtain ⟨⟨old, he⟩, hit, hne⟩ := st
    obtain ⟨xs, x, hq, hx⟩ := hg
    obtain ⟨its, rv, p, hz⟩ := I.tuple hq
    obtain ⟨u, hu, ru⟩ := rv.get hx
    have hel : e < s.heap.objs.size := Heap.lt_size he
    have hil : it < s.heap.objs.size := by obtain ⟨_, q, _⟩ := hit; exact Heap.lt_size q
    have hT : s.heap.IsTuple a its.toArray := p
    have hat : a ≠ it := fun z => by
      obtain ⟨oT, h1, h2, _⟩ := id hT
      obtain ⟨oI, g1, g2, _⟩ := id hit
      rw [z, g1] at h1; cases h1; exact absurd (g2.symm.trans h2) (by decide)
    have hae : a ≠ e := fun z => by
      obtain ⟨oT, h1, h2, _⟩ := id hT
      have g1 := he
      rw [z] at h1
      rw [show s.heap.get? e = some _ from g1] at h1; cases h1; exact absurd (show Value.type "enumerate" = Value.type "tuple" from h2) (by decide)
    have hlen : i < its.toArray.size := by
      have := (List.getElem?_eq_some_iff.mp hu).1
      simpa using this
    have hI : Around.handled X.A = none := I.ok.hd hc
    refine wpAny_pyNext_enum_itemD (Draws.tuple (prog := X.prog) (w := X.w) (A := X.A.in1) hI it a hat its.toArray) he ⟨hit, hT⟩ hlen hne (by simp [hne, Ne.symm hae]) fun x' h' tk hx' ho hit' hT' hsz hk => ?_
    have hxu : x' = u := by
      have := hx'
      simp at this
      rw [hu] at this
      exact (Option.some.inj this).symm
    subst hxu
    refine ⟨_, rfl, wpAny_letOwnedTupleGo_enum (s := { s with heap := h', toks := tk + 1 }) ho fun h'' he' sb => ?_⟩
    have hT2 : h''.get? s.heap.objs.size = some { cls := .type "tuple", data := .seq #[.int i tk, x'] } := (sb.2 _ (Nat.ne_of_gt hel)).trans hT'
    have new : ObjOk X.prog X.w (upd H s.heap.objs.size (.tup [.int (i : Nat), x])) h'' s.heap.objs.size (.tup [.int (i : Nat), x]) :=
      ⟨by show 2 ≤ sizeLine; decide, [.int i tk, x'], .cons ⟨_, rfl⟩ (.cons ru .nil), ⟨_, hT2, rfl, _, rfl⟩⟩
    have I1 : Inv X pins σ (upd H s.heap.objs.size (.tup [.int (i : Nat), x])) { s with heap := h'', toks := tk + 1 } :=
      I.turnedNew (ch := [e, it]) (fun b ob hb q => (sb.2 b (fun z => hb (by simp [z]))).trans (hk b ob (fun z => hb (by simp [z])) (fun z => hb (by simp [z])) q)) hf (Nat.le_refl _) new
    refine ⟨.ref s.heap.objs.size, _, I1, rfl, ⟨_, x, rfl, I.hok.fresh (Nat.le_refl _), rfl, fun ys hy => by rw [I.tuple_inj hy hq]; exact hx⟩, ⟨⟨x', ?_⟩, hit'.1.at fun o q => (sb.2 it (Ne.symm hne)).trans q, hne⟩, fun b hb => ?_⟩
    · have e1 : ((i + 1 : Nat) : Int) = (i : Int) + 1 := by omega
      rw [e1]; exact he'
    · have hb' : b < s.heap.objs.size := by
        have e' : b = e ∨ b = it := by simpa using hb
        rcases e' with z | z
        · rw [z]; exact hel
        · rw [z]; exact hil
      rw [upd_ne (Nat.ne_of_lt hb')]
      exact (hf b hb).1
  done := by
    intro X hP hw hK hc i pins s σ H E I hf st hg
    subst hP hw hK
    obtain ⟨⟨old, he⟩, hit, hne⟩ := st
    obtain ⟨xs, hq, hx⟩ := hg
    obtain ⟨its, rv, p, hz⟩ := I.tuple hq
    obtain ⟨f0, f1, f2, f3, f4, f5⟩ := hf it (by simp)
    have hl := rv.length
    have hT : s.heap.IsTuple a its.toArray := p
    have hat : a ≠ it := fun z => by
      obtain ⟨oT, h1, h2, _⟩ := id hT
      obtain ⟨oI, g1, g2, _⟩ := id hit
      rw [z, g1] at h1; cases h1; exact absurd (g2.symm.trans h2) (by decide)
    have hI : Around.handled X.A = none := I.ok.hd hc
    have D : Draws X.prog X.w X.A.in1 it [it, a] i (fun _ _ => False) (fun j h => j = i ∧ h.IsTupleIter it a i ∧ h.IsTuple a its.toArray) :=
      { live := fun _ _ st => (let ⟨o, ho, _⟩ := st.2.1; ⟨o, ho⟩)
        frame := fun _ _ _ st hk => ⟨st.1, st.2.1.at fun o e => hk it (by simp) o e, st.2.2.at fun o e => hk a (by simp) o e⟩
        item := fun j s Q E hj st => absurd st.1 (Nat.ne_of_lt hj)
        done := fun s Q E st hE => wpAny_nextOf_tuple_end hI st.2.1 st.2.2 (by simp; omega) hE }
    exact wpAny_pyNext_enum_endD D he ⟨rfl, hit, hT⟩ fun h' eb => ⟨rfl, I.turned (t' := s.toks) (fun b o hb q => eb b o hb q) f0 f1 f3 f4 f5⟩
  self := fun A i s Q E st h => let ⟨⟨_, he⟩, _⟩ := st; wpAny_pyIter_enum he h
def iEnumT (K : PySem.W.Frag) (ta : TA) : TI := fun σ H R => ta σ H fun vs H1 => ∃ a xs, vs = [.ref a] ∧ SqT K H1 a xs ∧ R (IteT K a) H1
theorem pi_enumT {X : Cx} {e : Expr} {ta : TA} {p pos tpos : Pos} {elts : List Expr} {kk : Nat} (hg : Gl X "enumerate") (hm : X.mg "enumerate" = none) (ha : PA X [e] ta) (hs : starEach [e] X.env = [(false, eval e X.env)] := by rfl) :
    PI X (.Tuple elts kk tpos) (.Call (.Name "enumerate" p) [e] [] pos) (iEnumT X.K ta) := by
  refine ⟨fun pins s σ H R I h => ?_⟩
  refine Call_ (ld_blt I hg hm boot_enumerate (PyProof.Rows.callWith_type1 (thn (ha.run pos pins s σ H _ I h) fun us s1 ⟨vs, H1, I1, r1, q1⟩ => ?_) hs rfl))
  obtain ⟨a, xs, ex, hq, q⟩ := q1
  subst ex
  cases r1 with
  | cons r rr =>
    cases rr
    cases r
    obtain ⟨its, rv, p', hz⟩ := I1.tuple hq
    have hT : s1.heap.IsTuple a its.toArray := p'
    refine sm_call_enumerate (begins_tuple a its.toArray) hT fun h' he ho hsz hk => wpAny_pyIter_enum he ?_
    have I2 : Inv X pins σ H1 { s1 with heap := h' } := I1.kept (t' := s1.toks) hk
    refine ⟨s1.heap.objs.size + 1, [s1.heap.objs.size + 1, s1.heap.objs.size], _, _, H1, rfl, I2, turn_enumT a (s1.heap.objs.size + 1) s1.heap.objs.size, ⟨⟨.none, he⟩, ⟨_, ho, rfl, rfl⟩, Nat.succ_ne_self _⟩, fun b hb => ?_, q⟩
    have e' : b = s1.heap.objs.size + 1 ∨ b = s1.heap.objs.size := by simpa using hb
    have hle : s1.heap.objs.size ≤ b := by
      rcases e' with z | z
      · rw [z]; exact Nat.le_add_right _ _
      · rw [z]; exact Nat.le_refl _
    exact I1.fpOk hle (I1.hok.fresh hle)
/-- enumerate(e), the target a tuple -/
def enumV (xs : List Val) : List Val := (List.range xs.length).map fun (i : Nat) => Val.tup [.int (i : Int), xs.getD i .non]
def iEnum' (a : Ex) : Ix := fun env st => (a env st).bind fun x st1 => match x with
  | .tup xs => .ok (enumV xs, []) st1
  | .kt xs => .ok (enumV xs, []) st1
  | .loc l => match st1[l]? with
    | some (.lst xs) => .ok (enumV xs, [(l, .lst xs)]) st1
    | _ => .stuck
  | _ => .stuck
section
variable {P : Program} {w : World} {K : PySem.W.Frag} {mg : Str → Option Value} {base : Heap} {S : Sc}
variable {a : Expr} {ma : Ex} {pos : Pos}
variable {ρ ρ' : List Addr} {H H' : Hp} {W : WX} {σ : L2.St} {st : Sto} {xi : Option XI} {env : Sm.Env}
theorem enumV_get {xs : List Val} {i : Nat} {x : Val} (h : (enumV xs)[i]? = some x) : ∃ y, xs[i]? = some y ∧ x = .tup [.int (i : Int), y] := by
  unfold enumV at h
  have hi : i < xs.length := by
    have := (List.getElem?_eq_some_iff.mp h).1
    simpa using this
  rw [List.getElem?_map, List.getElem?_range hi] at h
  refine ⟨xs[i], List.getElem?_eq_getElem hi, ?_⟩
  have := Option.some.inj h
  rw [← this]
  show Val.tup [Val.int (i : Int), xs.getD i .non] = Val.tup [Val.int (i : Int), xs[i]]
  rw [List.getD_eq_getElem?_getD, List.getElem?_eq_getElem hi]
  rfl
theorem relI_pair {p : Addr} {x v : V} {i : Int} {y : Val} (rs : RS K mg ρ H st) (hp : H p = none) (rv : RV K mg ρ H y x) :
    Ext ρ H ρ (upd H p (.tup [.int i, x])) ∧ RS K mg ρ (upd H p (.tup [.int i, x])) st ∧ RV K mg ρ (upd H p (.tup [.int i, x])) (.tup [.int i, y]) (.ref p) := by
  refine ⟨.new hp, rs.new hp, ?_⟩
  rw [RV]
  exact ⟨p, _, rfl, upd_same, .cons (by rw [RV]) (.cons (rv.mono (.new hp)) .nil)⟩
theorem relI_enumT {a : Addr} {vs : List V} {xs : List Val} (hT : SqT K H a vs) (hv : RVs K mg ρ H xs vs) : relI K mg ρ H (enumV xs, []) (IteT K a) := fun ρ' H' st' e rs g => by
  have h1 := e.sqT hT
  have h2 := hv.mono e
  refine ⟨fun i hi => ⟨vs, h1, by rw [h2.length]; simpa [enumV] using hi⟩, fun i x hx => ?_⟩
  obtain ⟨y, hy, rfl⟩ := enumV_get hx
  obtain ⟨v, hv, rv⟩ := h2.get hy
  refine ⟨⟨vs, v, h1, hv⟩, ?_⟩
  rintro v' H'' ⟨T, x', rfl, hT, rfl, hz⟩
  have := hz vs h1
  rw [hv] at this
  cases this
  exact relI_pair (v := v) rs hT rv
theorem relI_enumL {l : Nat} {a : Addr} {xs : List Val} (ha : ρ[l]? = some a) : relI K mg ρ H (enumV xs, [(l, .lst xs)]) (Ite K a) := fun ρ' H' st' e rs g => by
  obtain ⟨vs, h1, h2⟩ := rs.at (g (l, .lst xs) (by simp)) (e.at ha)
  refine ⟨fun i hi => ⟨vs, SqL.of h1, by rw [h2.length]; simpa [enumV] using hi⟩, fun i x hx => ?_⟩
  obtain ⟨y, hy, rfl⟩ := enumV_get hx
  obtain ⟨v, hv, rv⟩ := h2.get hy
  refine ⟨⟨vs, v, SqL.of h1, hv⟩, ?_⟩
  rintro v' H'' ⟨T, x', rfl, hT, rfl, hz⟩
  have := hz vs (SqL.of h1)
  rw [hv] at this
  cases this
  exact relI_pair (v := v) rs hT rv
theorem simI_enum {elts : List Expr} {kk : Nat} {p tpos : Pos} (hg : S.sc.names.lookup ("enumerate" : Str) = some .globalImplicit) (hm : mg "enumerate" = none) (ha : SimE P w K mg base S a ma) (hs : ∀ env, starEach [a] env = [(false, eval a env)]) :
    SimI P w K mg base S (.Tuple elts kk tpos) (.Call (.Name "enumerate" p) [a] [] pos) (iEnum' ma) := fun X W hX tk => by
  have hgl : Gl X "enumerate" := (show X.env.scope.names.lookup ("enumerate" : Str) = _ by rw [← hX.scope]; exact hg)
  have hml : X.mg "enumerate" = none := by rw [← hX.mg]; exact hm
  refine PI.imp (PI.or (pi_enum hgl hml (pa_cons (ha X W hX tk) pa_nil (hs _)) (hs _)) (pi_enumT hgl hml (pa_cons (ha X W hX tk) pa_nil (hs _)) (hs _))) fun σ H R ⟨ρ, st, env, rs, re, h⟩ => ?_
  unfold iEnum' at h
  have eK := hX.K
  subst eK
  cases q : ma env st with
  | stuck => rw [q] at h; exact h.elim
  | err x st2 => rw [q] at h; exact .inl ⟨ρ, st, env, rs, re, by rw [q]; exact h⟩
  | ok x st2 =>
    rw [q] at h
    cases x with
    | tup xs =>
      refine .inr (tE_ok rs re q fun ρ1 H1 v e1 rs1 rv => ?_)
      obtain ⟨a, vs, rfl, h1, h2⟩ := rv.seqT (.inl rfl)
      exact ⟨a, vs, rfl, h1, h ρ1 H1 _ e1 rs1 (relI_enumT h1 h2)⟩
    | kt xs =>
      refine .inr (tE_ok rs re q fun ρ1 H1 v e1 rs1 rv => ?_)
      obtain ⟨a, vs, rfl, h1, h2⟩ := rv.seqT (.inr rfl)
      exact ⟨a, vs, rfl, h1, h ρ1 H1 _ e1 rs1 (relI_enumT h1 h2)⟩
    | loc l =>
      refine .inl (tE_ok rs re q fun ρ1 H1 v e1 rs1 rv => ?_)
      rw [RV] at rv
      obtain ⟨a, rfl, h1⟩ := rv
      have h' : Post _ mg (relI _ mg) W ρ H σ R (match st2[l]? with | some (.lst xs) => .ok (enumV xs, [(l, .lst xs)]) st2 | _ => .stuck) := h
      split at h'
      · rename_i xs hst
        obtain ⟨vs, h2, h3⟩ := rs1.at hst h1
        exact ⟨a, vs, rfl, SqL.of h2, h' ρ1 H1 _ e1 rs1 (relI_enumL h1)⟩
      · exact h'.elim
    | _ => exact h.elim
end
end Sm

/-! The Sim layer, part 5: defs and their calls, methods, instances made; try and raise. -/
namespace Sm
open PySem L2

section
variable (K : PySem.W.Frag) (mg : Str → Option Value)
/-- the promise of a def with n parameters: it comes to what m tells -/
def spM (n : Nat) (m : Fx) : Sp := fun vs H Q E => ∃ ρ st xs, RS K mg ρ H st ∧ RVs K mg ρ H xs vs ∧ xs.length = n ∧ PostE K mg (fun cls d _ H' => E cls d H') ρ H [] Q (m xs st)
end
/-- a def's body as a function -/
def runB (n : Nat) (b : Sx) : Fx := fun xs st => match b (xs.map some ++ List.replicate (n - xs.length) none) st with
  | .nx _ st' => .ok .non st'
  | .rt v st' => .ok v st'
  | .er x _ st' => .err x st'
  | _ => .stuck
/-- what a def's promise must be called with -/
structure FnM (P : Program) (w : World) (K : PySem.W.Frag) (mg : Str → Option Value) (base : Heap) (k : Nat) (f : Addr) (fd : FuncData) (ps : List Str) (m : Fx) : Prop where
  run : ∀ (A : Around) (outer : List PySem.Env) (s : Shared) (H : Hp) (args : Args) (us : List Value) (vs : List V) (Q : VK) (E : XK), A.guards = some [] → Room k A → Env0 P w K mg base A outer s H → BindsTo s fd args (ps.zip us) → Vals vs us →
    spM K mg ps.length m vs H Q E → codeAny (model P w) A (.call (.ref f) args) (CR (L2.CX P w) outer P w H s Q E) s

section
variable {P : Program} {w : World} {K : PySem.W.Frag} {mg : Str → Option Value} {base : Heap} {S : Sc}
variable {e a b c : Expr} {es : List Expr} {st1 : Stmt} {sts body : List Stmt} {ma mb mc : Ex} {ta tb : Tx} {aa ab : Ax} {sa sb : Sx} {pos pos' : Pos} {o o' : Val → Val → Sto → R Val} {ga : Gx} {gs : Gxs} {mi : Ix}
variable {ρ ρ' : List Addr} {H H' : Hp} {W : WX} {σ : L2.St} {st : Sto} {xi : Option XI} {env : Env}

theorem RE.start {N : List Str} {xs : List Val} {vs : List V} (h : RVs K mg ρ H xs vs) : RE K mg ρ H none (xs.map some ++ List.replicate (N.length - xs.length) none) (L2.start N vs) := by
  have hl := h.length
  refine ⟨by simp [L2.start, hl], fun j x hj _ => ?_, fun ξ c fs h1 _ => by cases h1⟩
  have hjl : j < xs.length := by
    by_cases hjl : j < xs.length
    · exact hjl
    · rw [List.getElem?_append_right (by simpa using hjl), List.getElem?_replicate] at hj
      split at hj <;> cases hj
  rw [List.getElem?_append_left (by simpa using hjl), List.getElem?_map] at hj
  cases q : xs[j]? with
  | none => rw [q] at hj; cases hj
  | some y =>
    rw [q] at hj
    cases hj
    obtain ⟨v, h1, h2⟩ := h.get q
    refine ⟨v, ?_, h2⟩
    unfold L2.start
    rw [List.getElem?_append_left (by simpa [hl] using hjl), List.getElem?_map, h1]
    rfl
/-- THE RULE of a def: its body as it stands comes to what the combinators tell -/
theorem fn_sim {name qual : Str} {params : Arguments} {body : List Stmt} {scope : Scope} {f : Addr} {dV kV doc pm cdv ct oc : Value} {an od : Option Addr} {osl : Array (Option Value)} {N ps : List Str} {k : Nat} {b : Sx}
    (lk : K.lookup f = some ⟨oc, od, .func (PySem.W.fnOf name qual params body scope dV kV doc pm an cdv ct), osl⟩) (hcd : PySem.W.codeIn K cdv qual = true) (F' : FnScope N ps scope)
    (h : SimSs P w K mg base { N := N, sc := scope, k := k } body b) : FnM P w K mg base (k + 1) f (PySem.W.fnOf name qual params body scope dV kV doc pm an cdv ct) ps (runB N.length b) := by
  refine ⟨fun A outer s H args us vs Q E hgd hr e0 hb r hsp => ?_⟩
  obtain ⟨ρ, st, xs, rs, rv, hn, hp⟩ := hsp
  have hl : vs.length = ps.length := by rw [rv.length]; exact hn
  have KX : K.In s.heap := e0.mod.kin.keeps fun b o e => (e0.bs b o e).1
  have lim : s.heap.NoLimit := e0.mod.nolimit.keeps fun b o e => (e0.bs b o e).1
  have hkind : ∀ y ∈ ps.zip us, (scope).names.lookup y.1 = some .local ∨ ((scope).names.lookup y.1 = some .cell ∧ ((cellsFrom (s.heap.objs.size + 1) (scope).names []).lookup y.1).isSome = true) := fun y hy =>
    (F'.par y.1 (List.of_mem_zip hy).1).imp id fun q => ⟨q, PySem.W.cellsFrom_some _ _ _ (.inl q)⟩
  refine codeAny_call_function hr.depth (KX _ _ lk) rfl F'.co F'.gen rfl (PySem.W.codeRec_of KX hcd) (hb _ _ _ _ ?_)
  refine wpAny_newFunctionEnv_cells F'.kind hkind fun env he s1 x => ?_
  subst he
  refine ⟨lim.keeps x.toInCall.keep, codeAny_func ?_⟩
  have I := inv_start (CX := L2.CX P w) (E := E) (f := f) F' hr.hd e0 hl r x
  refine wpAny_mono ((h (cxOf (L2.CX P w) P w K mg base N qual (scope) f cdv A outer s H E) (fun cls d _ H' => E cls d H') ?_ (takes_of rfl rfl rfl rfl)).run [] s1 (L2.start N vs) H { nx := fun _ H' => Q .non H', rt := Q } I ⟨ρ, st, _, rs, RE.start rv, ?_⟩) (fun fl s' hs => ?_) fun e s' hs => hs
  · exact ⟨rfl, rfl, rfl, rfl, rfl, rfl, rfl, rfl, fun _ => hr.deeper _, fun _ => ⟨rfl, rfl⟩, fun _ _ => rfl, passes_of rfl, hgd, fun ξ hξ => by cases hξ⟩
  · unfold runB at hp
    cases q : b (xs.map some ++ List.replicate (N.length - xs.length) none) st with
    | nx e s => rw [q] at hp; exact fun ρ' H' σ' e' rs' re' => hp ρ' H' .non e' rs' (by rw [RV])
    | rt v s => rw [q] at hp; exact hp
    | er x e s => rw [q] at hp; exact fun ρ' H' σ' cls d e' rs' re' rx => hp ρ' H' cls d e' rs' rx
    | bk e s => rw [q] at hp; exact hp.elim
    | ct e s => rw [q] at hp; exact hp.elim
    | stuck => rw [q] at hp; exact hp.elim
  · cases fl with
    | ret u =>
      obtain ⟨v, σ', H', J, rv, q⟩ := hs
      exact ⟨v, H', J.os, J.bare, J.base, J.hok, rv, q⟩
    | next =>
      obtain ⟨σ', H', J, q⟩ := hs
      exact ⟨V.non, H', J.os, J.bare, J.base, J.hok, rfl, q⟩
    | brk =>
      obtain ⟨_, _, _, q⟩ := hs
      exact False.elim q
    | cont =>
      obtain ⟨_, _, _, q⟩ := hs
      exact False.elim q

/-- the callee runs, its exceptions as wished at the slots σ -/
theorem run_simM {X : Cx} {k : Nat} {f : Addr} {fd : FuncData} {ps : List Str} {m : Fx} {pins : List (Addr × Obj)} {s : Shared} {Q : VK} {us : List Value} {args : Args} {xs : List Val} {vs : List V} (F : FnM X.prog X.w X.K X.mg X.base k f fd ps m) (hgd : X.A.guards = some []) (hr : Room k X.A) (tk : Takes X W)
    (hb : BindsTo s fd args (ps.zip us)) (I : Inv X pins σ H s) (r : Vals vs us) (rs : RS X.K X.mg ρ H st) (rv : RVs X.K X.mg ρ H xs vs) (hn : xs.length = ps.length) (h : PostE X.K X.mg W ρ H σ Q (m xs st)) :
    codeAny (model X.prog X.w) X.A (.call (.ref f) args) (fun r s' => match r with | .ok (.ret u) => EP X pins σ Q u s' | .ok _ => False | .error e => X.xe e s') s := by
  refine codeAny_mono (F.run X.A X.stack s H args us vs Q (fun cls d H' => W cls d σ H') hgd hr I.env0 hb r ⟨ρ, st, xs, rs, rv, hn, ?_⟩) fun r s' hq => ?_
  · cases q : m xs st with
    | ok v s => rw [q] at h; exact h
    | err x s => rw [q] at h; exact h
    | stuck => rw [q] at h; exact h.elim
  · cases r with
    | error e => exact tk e s' (XE.of_call I (fun _ _ _ h => h) hq)
    | ok fl =>
      cases fl with
      | ret u => exact I.after hq
      | next => exact False.elim hq
      | brk => exact False.elim hq
      | cont => exact False.elim hq

/-! ### arguments, by place and by keywords -/
/-- the arguments of a call evaluated: n by place, the rest by the keywords ks -/
def CA (X : Cx) (es : List Expr) (kws : List Keyword) (n : Nat) (ks : List Str) (t : TA) : Prop :=
  ∀ (pos : Pos) (f : Value) (first : List Value) (pins : List (Addr × Obj)) (s : Shared) (σ : L2.St) (H : Hp) (G : List V → Hp → Prop) (Qf : Value → Shared → Prop), PySem.W.keepIn X.K f = true → Inv X pins σ H s → t σ H G →
    (∀ s' us ws vs H', Inv X pins σ H' s' → Vals vs (us ++ ws) → us.length = n → ws.length = ks.length → G vs H' → wpAny (model X.prog X.w) X.A (call f (first ++ us) (ks.zip ws)) Qf X.xe s') →
    wpAny (model X.prog X.w) X.A (callWith pos f first (backTo pos (starEach es X.env)) (backToKw pos (keywordEach kws X.env))) Qf X.xe s
theorem ca_pos {X : Cx} {t : TA} (ha : PA X (e :: es) t) (hl : ∀ σ H Q, t σ H Q → t σ H fun vs H' => vs.length = (e :: es).length ∧ Q vs H')
    (he : starEach (e :: es) X.env = (false, eval e X.env) :: starEach es X.env) (hpl : ∀ pos, (backTo pos (starEach es X.env)).any (·.1) = false) : CA X (e :: es) [] (es.length + 1) [] t := fun pos f first pins s σ H G Qf hk I h k => by
  refine PySem.W.callWith_K (h₀ := X.base) I.ok.mod.kin hk (thn (ha.run pos pins s σ H _ I (hl _ _ _ h)) fun us s1 ⟨vs, H1, I1, r, l, q⟩ => ⟨I1.kIn, ?_⟩) he (hpl pos)
  exact k s1 us [] vs H1 I1 (by rw [List.append_nil]; exact r) (by rw [← r.length]; exact l) rfl q
theorem ca_nil {X : Cx} : CA X [] [] 0 [] tNil := fun pos f first pins s σ H G Qf hk I h k =>
  PySem.W.callWith_K0 I.kIn hk (k s [] [] [] H I .nil rfl rfl h)
theorem ca_kw {X : Cx} {t tk : TA} {kws : List Keyword} {ks : List Str} (ha : PA X (e :: es) t) (hl : ∀ σ H Q, t σ H Q → t σ H fun vs H' => vs.length = (e :: es).length ∧ Q vs H') (hkw : PK X kws tk) (hl2 : ∀ σ H Q, tk σ H Q → tk σ H fun vs H' => vs.length = ks.length ∧ Q vs H')
    (he : starEach (e :: es) X.env = (false, eval e X.env) :: starEach es X.env) (hall : ∀ pos, (backToKw pos (keywordEach kws X.env)).all (·.1.isSome) = true) (hks : ∀ pos, (backToKw pos (keywordEach kws X.env)).filterMap (·.1) = ks)
    (hpl : ∀ pos, ((backTo pos (starEach (e :: es) X.env)).any (·.1) || (backToKw pos (keywordEach kws X.env)).any (·.1.isNone)) = false) : CA X (e :: es) kws (es.length + 1) ks (fun σ H Q => t σ H fun vs H1 => tk σ H1 fun zs H2 => Q (vs ++ zs) H2) := fun pos f first pins s σ H G Qf hk I h k => by
  refine PySem.W.callWith_KW (h₀ := X.base) I.ok.mod.kin hk (hall pos) (thn (ha.run pos pins s σ H _ I (hl _ _ _ h)) fun us s1 ⟨vs, H1, I1, r, l, q⟩ => ?_) (hpl pos) he
  refine thn (hkw.run pos pins s1 σ H1 _ I1 (hl2 _ _ _ q)) fun ws s2 ⟨zs, H2, I2, rz, l2, q2⟩ => ⟨I2.kIn, ?_⟩
  rw [hks]
  exact k s2 us ws (vs ++ zs) H2 I2 (r.append rz) (by rw [← r.length]; exact l) (by rw [← rz.length]; exact l2) q2
theorem ca_kw0 {X : Cx} {tk : TA} {kws : List Keyword} {ks : List Str} (hkw : PK X kws tk) (hl2 : ∀ σ H Q, tk σ H Q → tk σ H fun vs H' => vs.length = ks.length ∧ Q vs H')
    (hall : ∀ pos, (backToKw pos (keywordEach kws X.env)).all (·.1.isSome) = true) (hks : ∀ pos, (backToKw pos (keywordEach kws X.env)).filterMap (·.1) = ks)
    (hpl : ∀ pos, ((backTo pos (starEach [] X.env)).any (·.1) || (backToKw pos (keywordEach kws X.env)).any (·.1.isNone)) = false) : CA X [] kws 0 ks tk := fun pos f first pins s σ H G Qf hk I h k => by
  refine PySem.W.callWith_KW0 (h₀ := X.base) I.ok.mod.kin hk (hall pos) (thn (hkw.run pos pins s σ H _ I (hl2 _ _ _ h)) fun ws s2 ⟨zs, H2, I2, rz, l2, q2⟩ => ⟨I2.kIn, ?_⟩) (hpl pos)
  rw [hks]
  exact k s2 [] ws zs H2 I2 rz rfl (by rw [← rz.length]; exact l2) q2
end

section
variable (P : Program) (w : World) (K : PySem.W.Frag) (mg : Str → Option Value) (base : Heap) (S : Sc)
def SimC (es : List Expr) (kws : List Keyword) (n : Nat) (ks : List Str) (m : Ax) : Prop := ∀ X W, XOk P w K mg base S X → Takes X W → CA X es kws n ks (tA K mg W S.xi m)
def SimK (kws : List Keyword) (m : Ax) : Prop := ∀ X W, XOk P w K mg base S X → Takes X W → PK X kws (tA K mg W S.xi m)
/-- as many values as told -/
def ALen (m : Ax) (n : Nat) : Prop := ∀ env st xs st', m env st = .ok xs st' → xs.length = n
end
theorem aLen_nil : ALen aNil 0 := fun env st xs st' h => by
  unfold aNil at h; cases h; rfl
theorem aLen_cons {a : Ex} {r : Ax} {n : Nat} (h : ALen r n) : ALen (aCons a r) (n + 1) := fun env st xs st' q => by
  unfold aCons at q
  cases qa : a env st with
  | ok x s =>
    rw [qa] at q
    simp only [R.bind_ok] at q
    cases qr : r env s with
    | ok ys s2 =>
      rw [qr] at q
      simp only [R.bind_ok] at q
      cases q
      simp [h _ _ _ _ qr]
    | err _ _ => rw [qr] at q; cases q
    | stuck => rw [qr] at q; cases q
  | err _ _ => rw [qa] at q; cases q
  | stuck => rw [qa] at q; cases q
def aApp (a b : Ax) : Ax := fun env st => (a env st).bind fun xs st1 => (b env st1).bind fun ys st2 => .ok (xs ++ ys) st2
section
variable {P : Program} {w : World} {K : PySem.W.Frag} {mg : Str → Option Value} {base : Heap} {S : Sc}
variable {e a b c : Expr} {es : List Expr} {ma mb mc : Ex} {aa ab : Ax} {pos pos' : Pos}
variable {ρ ρ' : List Addr} {H H' : Hp} {W : WX} {σ : L2.St} {st : Sto} {xi : Option XI} {env : Env}
theorem tA_len {n : Nat} {Q : List V → Hp → Prop} (hl : ALen aa n) (h : tA K mg W xi aa σ H Q) : tA K mg W xi aa σ H fun vs H' => vs.length = n ∧ Q vs H' := by
  obtain ⟨ρ, st, env, rs, re, h⟩ := h
  refine ⟨ρ, st, env, rs, re, ?_⟩
  cases q : aa env st with
  | ok xs s => rw [q] at h; exact fun ρ' H' vs e r rv => ⟨by rw [rv.length]; exact hl _ _ _ _ q, h ρ' H' vs e r rv⟩
  | err x s => rw [q] at h; exact h
  | stuck => rw [q] at h; exact h
theorem simK_nil : SimK P w K mg base S [] aNil := fun X W hX tk => ⟨fun pos pins s σ H Q I ⟨ρ, st, env, rs, re, h⟩ => pk_nil.run pos pins s σ H Q I (h ρ H [] .refl rs .nil)⟩
theorem simK_cons {nm : Option Str} {kpos : Pos} {kws : List Keyword} (ha : SimE P w K mg base S a ma) (hr : SimK P w K mg base S kws ab) : SimK P w K mg base S (⟨nm, a, kpos⟩ :: kws) (aCons ma ab) := fun X W hX tk =>
  ⟨fun pos pins s σ H Q I ⟨ρ, st, env, rs, re, h⟩ => (pk_cons (ha X W hX tk) (hr X W hX tk)).run pos pins s σ H Q I ⟨ρ, st, env, rs, re, Post.bind h fun ρ1 H1 st1 x v _ e1 rs1 rv p1 =>
    ⟨ρ1, st1, env, rs1, re.mono e1, Post.bind p1 fun ρ2 H2 st2 xs vs _ e2 rs2 rvs p2 => p2 ρ2 H2 (v :: vs) .refl rs2 (.cons (rv.mono e2) rvs)⟩⟩⟩
theorem simC_pos (ha : SimA P w K mg base S (e :: es) aa) (hl : ALen aa (es.length + 1)) (he : ∀ env, starEach (e :: es) env = (false, eval e env) :: starEach es env) (hpl : ∀ pos env, (backTo pos (starEach es env)).any (·.1) = false) : SimC P w K mg base S (e :: es) [] (es.length + 1) [] aa := fun X W hX tk =>
  ca_pos (ha X W hX tk) (fun _ _ _ h => tA_len hl h) (he _) fun pos => hpl pos _
theorem simC_nil : SimC P w K mg base S [] [] 0 [] aNil := fun X W hX tk pos f first pins s σ H G Qf hk I ⟨ρ, st, env, rs, re, h⟩ k => ca_nil pos f first pins s σ H G Qf hk I (h ρ H [] .refl rs .nil) k
theorem simC_kw {kws : List Keyword} {ks : List Str} (ha : SimA P w K mg base S (e :: es) aa) (hl : ALen aa (es.length + 1)) (hk : SimK P w K mg base S kws ab) (hl2 : ALen ab ks.length) (he : ∀ env, starEach (e :: es) env = (false, eval e env) :: starEach es env)
    (hall : ∀ pos env, (backToKw pos (keywordEach kws env)).all (·.1.isSome) = true) (hks : ∀ pos env, (backToKw pos (keywordEach kws env)).filterMap (·.1) = ks)
    (hpl : ∀ pos env, ((backTo pos (starEach (e :: es) env)).any (·.1) || (backToKw pos (keywordEach kws env)).any (·.1.isNone)) = false) : SimC P w K mg base S (e :: es) kws (es.length + 1) ks (aApp aa ab) := fun X W hX tk pos f first pins s σ H G Qf hkk I ⟨ρ, st, env, rs, re, h⟩ k =>
  ca_kw (ha X W hX tk) (fun _ _ _ h => tA_len hl h) (hk X W hX tk) (fun _ _ _ h => tA_len hl2 h) (he _) (fun pos => hall pos _) (fun pos => hks pos _) (fun pos => hpl pos _) pos f first pins s σ H G Qf hkk I
    ⟨ρ, st, env, rs, re, Post.bind h fun ρ1 H1 st1 xs vs _ e1 rs1 rv p1 => ⟨ρ1, st1, env, rs1, re.mono e1, Post.bind p1 fun ρ2 H2 st2 ys zs _ e2 rs2 rz p2 => p2 ρ2 H2 _ .refl rs2 ((rv.mono e2).append rz)⟩⟩ k
theorem simC_kw0 {kws : List Keyword} {ks : List Str} (hk : SimK P w K mg base S kws ab) (hl2 : ALen ab ks.length)
    (hall : ∀ pos env, (backToKw pos (keywordEach kws env)).all (·.1.isSome) = true) (hks : ∀ pos env, (backToKw pos (keywordEach kws env)).filterMap (·.1) = ks)
    (hpl : ∀ pos env, ((backTo pos (starEach [] env)).any (·.1) || (backToKw pos (keywordEach kws env)).any (·.1.isNone)) = false) : SimC P w K mg base S [] kws 0 ks ab := fun X W hX tk =>
  ca_kw0 (hk X W hX tk) (fun _ _ _ h => tA_len hl2 h) (fun pos => hall pos _) (fun pos => hks pos _) (fun pos => hpl pos _)

/-! ### how parameters find their values -/
/-- a parameter's value: the i-th one that is written, or the j-th default -/
def arr {α : Type} (z : α) (ord : List (Nat ⊕ Nat)) (xs ds : List α) : List α := ord.map fun p => match p with
  | .inl i => xs.getD i z
  | .inr j => ds.getD j z
theorem RVs.getD {xs : List Val} {vs : List V} (h : RVs K mg ρ H xs vs) (i : Nat) : RV K mg ρ H (xs.getD i .non) (vs.getD i .non) := by
  rw [List.getD_eq_getElem?_getD, List.getD_eq_getElem?_getD]
  cases q : xs[i]? with
  | some x =>
    obtain ⟨v, h1, h2⟩ := h.get q
    rw [h1]; exact h2
  | none =>
    have hl : vs.length ≤ i := by rw [h.length]; exact List.getElem?_eq_none_iff.mp q
    rw [List.getElem?_eq_none hl]
    show RV K mg ρ H .non .non
    rw [RV]
theorem RVs.arr (ord : List (Nat ⊕ Nat)) {xs ds : List Val} {vs es : List V} (h : RVs K mg ρ H xs vs) (h2 : RVs K mg ρ H ds es) : RVs K mg ρ H (arr .non ord xs ds) (arr .non ord vs es) := by
  induction ord with
  | nil => exact .nil
  | cons p r ih =>
    refine .cons ?_ ih
    cases p with
    | inl i => exact h.getD i
    | inr j => exact h2.getD j
theorem Vals.getD' {vs : List V} {us : List Value} (h : Vals vs us) (i : Nat) : RelV (vs.getD i .non) (us.getD i .none) := by
  rw [List.getD_eq_getElem?_getD, List.getD_eq_getElem?_getD]
  cases q : vs[i]? with
  | some x =>
    obtain ⟨v, h1, h2⟩ := h.get q
    rw [h1]; exact h2
  | none => rw [h.none_of q]; rfl
theorem Vals.arr (ord : List (Nat ⊕ Nat)) {vs es : List V} {us ds : List Value} (h : Vals vs us) (h2 : Vals es ds) : Vals (Sm.arr .non ord vs es) (Sm.arr .none ord us ds) := by
  induction ord with
  | nil => exact .nil
  | cons p r ih =>
    refine .cons ?_ ih
    cases p with
    | inl i => exact Vals.getD' h i
    | inr j => exact Vals.getD' h2 j
/-- the arguments n, ks of a call of the def fd reach the parameters ps in the order ord, with the defaults dvs -/
def BindsM (K : PySem.W.Frag) (mg : Str → Option Value) (fd : FuncData) (ps : List Str) (n : Nat) (ks : List Str) (ord : List (Nat ⊕ Nat)) (dvs : List Val) : Prop :=
  ord.length = ps.length ∧ ∃ (ds : List Value) (dv : List V), Vals dv ds ∧ (∀ ρ H, RVs K mg ρ H dvs dv) ∧ ∀ (s : Shared) (us ws : List Value), K.In s.heap → us.length = n → ws.length = ks.length → BindsTo s fd ⟨us, ks.zip ws⟩ (ps.zip (arr .none ord (us ++ ws) ds))
/-- f(..) -/
def eCallF (m : Fx) (ord : List (Nat ⊕ Nat)) (dvs : List Val) (aa : Ax) : Ex := fun env st => (aa env st).bind fun xs st1 => m (arr .non ord xs dvs) st1
theorem simE_callF {k n : Nat} {f : Addr} {fd : FuncData} {ps ks : List Str} {m : Fx} {x : Str} {p : Pos} {ord : List (Nat ⊕ Nat)} {dvs : List Val} {kws : List Keyword} (hc : S.calm = true) (F : FnM P w K mg base k f fd ps m) (hk : k ≤ S.k) (hg : S.sc.names.lookup x = some .globalImplicit) (hm : mg x = some (.ref f)) (hkp : PySem.W.keepIn K (.ref f) = true)
    (hb : BindsM K mg fd ps n ks ord dvs) (ha : SimC P w K mg base S es kws n ks aa) (hdb : (x == ("__debug__" : Str)) = false := by decide) :
    SimE P w K mg base S (.Call (.Name x p) es kws pos) (eCallF m ord dvs aa) := fun X W hX tk => by
  obtain ⟨rfl, rfl, rfl, rfl, rfl, hN, hsc, hcm, hrm, htp, hfn, hps, hgd, hsu⟩ := hX
  have hX : XOk X.prog X.w X.K X.mg X.base S X := ⟨rfl, rfl, rfl, rfl, rfl, hN, hsc, hcm, hrm, htp, hfn, hps, hgd, hsu⟩
  refine ⟨fun pins s σ H Q I h => ?_⟩
  obtain ⟨hol, ds, dv, hv, hd, hbb⟩ := hb
  refine wpAny_Call_Name_kw (ld_glob I (show X.env.scope.names.lookup x = _ by rw [← hsc]; exact hg) hm ?_ hdb)
  refine ha X W hX tk pos (.ref f) [] pins s σ H (fun vs H1 => ∃ ρ1 st1 xs, RS X.K X.mg ρ1 H1 st1 ∧ RVs X.K X.mg ρ1 H1 xs vs ∧ PostE X.K X.mg W ρ1 H1 σ Q (m (arr .non ord xs dvs) st1)) _ hkp I (by
    obtain ⟨ρ, st, env, rs, re, h⟩ := h
    exact ⟨ρ, st, env, rs, re, Post.bind h fun ρ1 H1 st1 xs vs hok e1 rs1 rvs p1 => ⟨ρ1, st1, xs, rs1, rvs, p1⟩⟩) fun s1 us ws vs H1 I1 r l1 l2 ⟨ρ1, st1, xs, rs1, rvs, p1⟩ => ?_
  refine wpAny_call (codeAny_mono (run_simM (us := arr .none ord (us ++ ws) ds) (vs := arr .non ord vs dv) (xs := arr .non ord xs dvs) F hgd ((hrm hc).mono hk) tk (hbb s1 us ws I1.kIn l1 l2) I1 (Vals.arr ord r hv) rs1 (rvs.arr ord (hd _ _)) (by simp [arr, hol]) p1) fun r s' hq => ?_)
  cases r with
  | error e => exact hq
  | ok fl => cases fl <;> exact hq
end
end Sm

/-! The Sim layer, part 6: methods, instances made, fields read. -/
namespace Sm
open PySem L2
/-- a method as it is called: what it comes to, its parameters' values (the receiver is the first that is written), its defaults -/
structure MI where
  m : Fx
  ord : List (Nat ⊕ Nat)
  dvs : List Val
def eMeth (tbl : List (Str × MI)) (x : Str) (o : Ex) (aa : Ax) : Ex := fun env st => (o env st).bind fun y st1 => match y with
  | .loc l => match st1[l]? with
    | some (.ins c al _) => match tbl.lookup c with
      | some mi => if al.contains x then .stuck else (aa env st1).bind fun xs st2 => mi.m (arr .non mi.ord (.loc l :: xs) mi.dvs) st2
      | none => .stuck
    | _ => .stuck
  | _ => .stuck
def eMake (c : Str) (al : List Str) (mi : MI) (aa : Ax) : Ex := fun env st => (aa env st).bind fun xs st1 => (mi.m (arr .non mi.ord (.loc st1.length :: xs) mi.dvs) (st1 ++ [.ins c al []])).bind fun v st2 => match v with
  | .non => .ok (.loc st1.length) st2
  | _ => .stuck
def eFld (f : Str) (o : Ex) : Ex := fun env st => (o env st).bind fun y st1 => match y with
  | .loc l => match st1[l]? with
    | some (.ins _ _ fs) => match fs.lookup f with
      | some v => .ok v st1
      | none => .stuck
    | _ => .stuck
  | _ => .stuck
section
variable {P : Program} {w : World} {K : PySem.W.Frag} {mg : Str → Option Value} {base : Heap} {S : Sc}
variable {e a b c : Expr} {es : List Expr} {ma mb mc : Ex} {aa ab : Ax} {pos pos' : Pos}
variable {ρ ρ' : List Addr} {H H' : Hp} {W : WX} {σ : L2.St} {st : Sto} {xi : Option XI} {env : Env}
theorem lookup_mem {α : Type} {k : Str} {v : α} : ∀ {l : List (Str × α)}, l.lookup k = some v → ∃ k', k' = k ∧ (k', v) ∈ l
  | [], h => by simp at h
  | (k', y) :: r, h => by
    rw [List.lookup_cons] at h
    cases q : k == k' with
    | true => rw [q] at h; cases h; exact ⟨k', (beq_iff_eq.mp q).symm, List.mem_cons_self⟩
    | false =>
      rw [q] at h
      obtain ⟨k2, e, m⟩ := lookup_mem h
      exact ⟨k2, e, List.mem_cons_of_mem _ m⟩
theorem simE_fld {f : Str} (ha : SimE P w K mg base S a ma) (hb : ∀ env, attributeBase a f env (eval a env) = eval a env) : SimE P w K mg base S (.Attribute a f pos) (eFld f ma) := fun X W hX tk =>
  PE.imp (pe_fld (ha X W hX tk) (hb _)) fun σ H Q ⟨ρ, st, env, rs, re, h⟩ => ⟨ρ, st, env, rs, re, Post.bind h fun ρ1 H1 st1 x v _ e1 rs1 rv p1 => by
    cases x with
    | loc l =>
      rw [RV] at rv
      obtain ⟨p, rfl, hp⟩ := rv
      simp only at p1
      split at p1
      · rename_i c al fs hst
        split at p1
        · rename_i y hy
          obtain ⟨C, dx, ps, h1, h2, h3, h4, h5, h6⟩ := rs1.at hst hp
          obtain ⟨u, hu, ru⟩ := h5.lookup hy
          have hm : f ∈ al := by
            obtain ⟨k', e, hl⟩ := lookup_mem hy
            rw [← e]
            exact h6 _ hl
          exact ⟨p, C, dx, ps, u, rfl, h4, by rw [← hX.K]; exact h2, by rw [← hX.K]; exact h3 f hm, hu, p1 ρ1 H1 u .refl rs1 ru⟩
        · exact p1.elim
      · exact p1.elim
    | _ => exact p1.elim⟩
/-- what the class c gives as the method x, called with n values and the keywords ks -/
structure MthOk (P : Program) (w : World) (K : PySem.W.Frag) (mg : Str → Option Value) (base : Heap) (k : Nat) (c x : Str) (n : Nat) (ks : List Str) (mi : MI) : Prop where
  ok : ∃ (j : Nat) (f : Addr) (fd : FuncData) (ps : List Str), j ≤ k ∧ (∀ C, mg c = some (.ref C) → Meth K C x f) ∧ FnM P w K mg base j f fd ps mi.m ∧ BindsM K mg fd ps (n + 1) ks mi.ord mi.dvs
theorem simE_meth {x : Str} {apos : Pos} {n : Nat} {ks : List Str} {kws : List Keyword} {tbl : List (Str × MI)} {pl : PySem.Env → Sem Bool} (hc : S.calm = true) (ho : SimE P w K mg base S a ma) (ht : ∀ p ∈ tbl, MthOk P w K mg base S.k p.1 x n ks p.2) (ha : SimC P w K mg base S es kws n ks aa)
    (hs : ∀ env, eval (.Call (.Attribute a x apos) es kws pos) env = (do
      let ov ← eval a env
      standAt apos.atName
      let (f, first) ← holding [ov] (getMethod ov x (pl env))
      callWith pos f first (backTo pos (starEach es env)) (backToKw pos (keywordEach kws env)))) :
    SimE P w K mg base S (.Call (.Attribute a x apos) es kws pos) (eMeth tbl x ma aa) := fun X W hX tk => by
  obtain ⟨rfl, rfl, rfl, rfl, rfl, hN, hsc, hcm, hrm, htp, hfn, hps, hgd, hsu⟩ := hX
  have hX : XOk X.prog X.w X.K X.mg X.base S X := ⟨rfl, rfl, rfl, rfl, rfl, hN, hsc, hcm, hrm, htp, hfn, hps, hgd, hsu⟩
  refine ⟨fun pins s σ H Q I ⟨ρ, st, env, rs, re, h⟩ => ?_⟩
  have ho' := (ho X W hX tk).run pins s σ H (fun v H1 => ∃ ρ1 st1 l c al fs mi, Ext ρ H ρ1 H1 ∧ RS X.K X.mg ρ1 H1 st1 ∧ RV X.K X.mg ρ1 H1 (.loc l) v ∧ st1[l]? = some (.ins c al fs) ∧ tbl.lookup c = some mi ∧ al.contains x = false ∧
      PostE X.K X.mg W ρ1 H1 σ Q ((aa env st1).bind fun xs st2 => mi.m (arr .non mi.ord (.loc l :: xs) mi.dvs) st2)) I ⟨ρ, st, env, rs, re, Post.bind h fun ρ1 H1 st1 y v _ e1 rs1 rv p1 => by
    cases y with
    | loc l =>
      simp only at p1
      split at p1
      · rename_i c al fs hst
        split at p1
        · rename_i mi hmi
          split at p1
          · exact p1.elim
          · rename_i hal
            exact ⟨ρ1, st1, l, c, al, fs, mi, e1, rs1, rv, hst, hmi, by simpa using hal, p1⟩
        · exact p1.elim
      · exact p1.elim
    | _ => exact p1.elim⟩
  refine PySem.W.methodCall_KW (pl := pl X.env) (thn ho' fun u s1 ⟨v, H1, I1, rx, ρ1, st1, l, c, al, fs, mi, e1, rs1, rv, hst, hmi, hal, p1⟩ => ?_) (hs _)
  rw [RV] at rv
  obtain ⟨p, rfl, hp⟩ := rv
  obtain rfl : u = Value.ref p := rx
  obtain ⟨C, dx, ps, h1, h2, h3, h4, h5, h6⟩ := rs1.at hst hp
  obtain ⟨c', e', hmem⟩ := lookup_mem hmi
  obtain ⟨j, f, fd, pps, hj, hM, F, hb⟩ := (ht _ hmem).ok
  simp only at hM
  subst e'
  have hmeth := hM C h1
  have hno : ps.lookup x = none := by
    refine h5.lookup_none ?_
    cases q : fs.lookup x with
    | none => rfl
    | some y =>
      obtain ⟨k', e, hl⟩ := lookup_mem q
      have hin := h6 _ hl
      rw [← e] at hal
      have hal' := List.contains_iff_mem.mpr hin
      simp only at hal'
      rw [hal'] at hal
      cases hal
  refine getmeth_ok I1 h4 h2 hmeth hno ?_
  obtain ⟨hol, ds, dv, hv, hd, hbb⟩ := hb
  refine ha X W hX tk pos (.ref f) [.ref p] pins s1 σ H1 (fun vs H2 => ∃ ρ2 st2 xs, RS X.K X.mg ρ2 H2 st2 ∧ RVs X.K X.mg ρ2 H2 (.loc l :: xs) (.ref p :: vs) ∧ PostE X.K X.mg W ρ2 H2 σ Q (mi.m (arr .non mi.ord (.loc l :: xs) mi.dvs) st2)) _ hmeth.kp I1
    ⟨ρ1, st1, env, rs1, re.mono e1, Post.bind p1 fun ρ2 H2 st2 xs vs hok e2 rs2 rvs p2 => ⟨ρ2, st2, xs, rs2, .cons (by rw [RV]; exact ⟨p, rfl, e2.at hp⟩) rvs, p2⟩⟩ fun s2 us ws vs H2 I2 r l1 l2 ⟨ρ2, st2, xs, rs2, rvs, p2⟩ => ?_
  have r' : Vals (.ref p :: vs) ((.ref p :: us) ++ ws) := .cons rfl r
  refine wpAny_call (codeAny_mono (run_simM (us := arr .none mi.ord ((.ref p :: us) ++ ws) ds) (vs := arr .non mi.ord (.ref p :: vs) dv) (xs := arr .non mi.ord (.loc l :: xs) mi.dvs) F hgd ((hrm hc).mono hj) tk (hbb s2 (.ref p :: us) ws I2.kIn (by simp [l1]) l2) I2 (Vals.arr mi.ord r' hv) rs2 (rvs.arr mi.ord (hd _ _)) (by simp [arr, hol]) p2) fun r s' hq => ?_)
  cases r with
  | error e => exact hq
  | ok fl => cases fl <;> exact hq
/-- C(..) -/
theorem simE_make {k n : Nat} {f C : Addr} {fd : FuncData} {ps ks : List Str} {x : Str} {p : Pos} {mi : MI} {al : List Str} {kws : List Keyword} (hc : S.calm = true) (M : Mk K C f) (hcl : Cls K C) (hal : ∀ g ∈ al, NoAttr K C g) (F : FnM P w K mg base k f fd ps mi.m) (hk : k + 1 ≤ S.k) (hg : S.sc.names.lookup x = some .globalImplicit) (hm : mg x = some (.ref C))
    (hb : BindsM K mg fd ps (n + 1) ks mi.ord mi.dvs) (ha : SimC P w K mg base S es kws n ks aa) (hdb : (x == ("__debug__" : Str)) = false := by decide) :
    SimE P w K mg base S (.Call (.Name x p) es kws pos) (eMake x al mi aa) := fun X W hX tk => by
  obtain ⟨rfl, rfl, rfl, rfl, rfl, hN, hsc, hcm, hrm, htp, hfn, hps, hgd, hsu⟩ := hX
  have hX : XOk X.prog X.w X.K X.mg X.base S X := ⟨rfl, rfl, rfl, rfl, rfl, hN, hsc, hcm, hrm, htp, hfn, hps, hgd, hsu⟩
  refine ⟨fun pins s σ H Q I h => ?_⟩
  obtain ⟨hol, ds, dv, hv, hd, hbb⟩ := hb
  refine wpAny_Call_Name_kw (ld_glob I (show X.env.scope.names.lookup x = _ by rw [← hsc]; exact hg) hm ?_ hdb)
  refine ha X W hX tk pos (.ref C) [] pins s σ H (fun vs H1 => ∃ ρ1 st1 xs, RS X.K X.mg ρ1 H1 st1 ∧ RVs X.K X.mg ρ1 H1 xs vs ∧ PostE X.K X.mg W ρ1 H1 σ Q ((mi.m (arr .non mi.ord (.loc st1.length :: xs) mi.dvs) (st1 ++ [.ins x al []])).bind fun v st2 => match v with
      | .non => .ok (.loc st1.length) st2
      | _ => .stuck)) _ M.kp I (by
    obtain ⟨ρ, st, env, rs, re, h⟩ := h
    exact ⟨ρ, st, env, rs, re, Post.bind h fun ρ1 H1 st1 xs vs hok e1 rs1 rvs p1 => ⟨ρ1, st1, xs, rs1, rvs, p1⟩⟩) fun s1 us ws vs H1 I1 r l1 l2 ⟨ρ1, st1, xs, rs1, rvs, p1⟩ => ?_
  have hx : H1 (s1.heap.objs.size + 1) = none := I1.hok.fresh (Nat.le_succ _)
  have hdx : H1 s1.heap.objs.size = none := I1.hok.fresh (Nat.le_refl _)
  have hne : s1.heap.objs.size + 1 ≠ s1.heap.objs.size := Nat.succ_ne_self _
  have I2 := Inv.made (C := C) I1
  have rsA := rs1.new (o := .own (s1.heap.objs.size + 1)) hdx
  have hx2 : (upd H1 s1.heap.objs.size (.own (s1.heap.objs.size + 1))) (s1.heap.objs.size + 1) = none := by rw [upd_ne hne]; exact hx
  have eA : Ext ρ1 H1 ρ1 (upd H1 s1.heap.objs.size (.own (s1.heap.objs.size + 1))) := .new hdx
  have eB : Ext ρ1 (upd H1 s1.heap.objs.size (.own (s1.heap.objs.size + 1))) (ρ1 ++ [s1.heap.objs.size + 1]) (upd (upd H1 s1.heap.objs.size (.own (s1.heap.objs.size + 1))) (s1.heap.objs.size + 1) (.ins C s1.heap.objs.size [])) := .snoc hx2
  have rsB : RS X.K X.mg (ρ1 ++ [s1.heap.objs.size + 1]) (upd (upd H1 s1.heap.objs.size (.own (s1.heap.objs.size + 1))) (s1.heap.objs.size + 1) (.ins C s1.heap.objs.size [])) (st1 ++ [.ins x al []]) :=
    rsA.snoc hx2 ⟨C, s1.heap.objs.size, [], hm, hcl, hal, upd_same, .nil, fun p hp => by cases hp⟩
  have hl1 : st1.length = ρ1.length := rs1.len.symm
  have rv0 : RV X.K X.mg (ρ1 ++ [s1.heap.objs.size + 1]) (upd (upd H1 s1.heap.objs.size (.own (s1.heap.objs.size + 1))) (s1.heap.objs.size + 1) (.ins C s1.heap.objs.size [])) (.loc st1.length) (.ref (s1.heap.objs.size + 1)) := by
    rw [RV]; exact ⟨_, rfl, by rw [hl1]; simp⟩
  have rvB := RVs.cons rv0 ((rvs.mono eA).mono eB)
  have r' : Vals (.ref (s1.heap.objs.size + 1) :: vs) ((.ref (s1.heap.objs.size + 1) :: us) ++ ws) := .cons rfl r
  have pB := p1.mono (eA.trans eB)
  refine wpAny_call (make_map (f := f) I1.kIn M.makes M.init (beq_iff_eq.mp M.fn) (codeAny_mono (F.run _ X.stack _ _ ⟨.ref (s1.heap.objs.size + 1) :: us, ks.zip ws⟩ (arr .none mi.ord ((.ref (s1.heap.objs.size + 1) :: us) ++ ws) ds) (arr .non mi.ord (.ref (s1.heap.objs.size + 1) :: vs) dv)
    (fun v H2 => v = .non ∧ Q (.ref (s1.heap.objs.size + 1)) H2) (fun cls d H' => W cls d σ H') (by first | exact hgd | (simpa [Around.under, pushGuards, Code.guards, Code.isGuard] using hgd)) (((hrm hc).mono hk).make C us (ks.zip ws)) (I2.env0.make C us (ks.zip ws)) (hbb _ (.ref (s1.heap.objs.size + 1) :: us) ws I2.kIn (by simp [l1]) l2) (Vals.arr mi.ord r' hv)
    ⟨_, _, arr .non mi.ord (.loc st1.length :: xs) mi.dvs, rsB, rvB.arr mi.ord (hd _ _), by simp [arr, hol], ?_⟩) fun r s' hq' => ?_))
  · cases q : mi.m (arr .non mi.ord (.loc st1.length :: xs) mi.dvs) (st1 ++ [.ins x al []]) with
    | stuck => rw [q] at pB; exact pB.elim
    | err x s => rw [q] at pB; exact pB
    | ok v s =>
      rw [q] at pB
      cases v with
      | non =>
        intro ρ' H' u e' rs' ru
        rw [RV] at ru
        refine ⟨ru, pB ρ' H' _ e' rs' ?_⟩
        rw [RV] at rv0 ⊢
        obtain ⟨a, ea, ha⟩ := rv0
        cases ea
        exact ⟨_, rfl, e'.at ha⟩
      | _ => exact pB.elim
  · cases r with
    | error e => exact tk e s' (XE.of_call I2 (fun _ _ _ h => h) hq')
    | ok fl =>
      cases fl with
      | ret u =>
        obtain ⟨v, H', I3, rv, ev, q3⟩ := I2.after hq'
        subst ev
        exact ⟨rv, ⟨V.ref (s1.heap.objs.size + 1), H', I3, rfl, q3⟩⟩
      | next => exact False.elim hq'
      | brk => exact False.elim hq'
      | cont => exact False.elim hq'
end
end Sm

/-! The Sim layer, part 7: try .. except, the fields of an exception, comprehensions. -/
namespace Sm
open PySem L2
/-- a clause: the name of its class, the slot of its name, its suite -/
structure Cl where
  c : Str
  i : Option Nat
  s : Sx
/-- a suite's end: the name goes -/
def goneS (i : Option Nat) (r : SR) : SR := match i with
  | none => r
  | some i => match r with
    | .nx e st => .nx (e.set i none) st
    | .bk e st => .bk (e.set i none) st
    | .ct e st => .ct (e.set i none) st
    | q => q
def noEr (r : SR) : SR := match r with
  | .er _ _ _ => .stuck
  | q => q
/-- the clauses, one after the other; exm tells whether a class is taken by a clause's -/
def clauses (exm : Str → Str → Option Bool) (x : Xn) (env : Env) (st : Sto) : List Cl → SR
  | [] => .er x env st
  | k :: r => match exm x.1 k.c with
    | some true => match k.i with
      | none => noEr (k.s env st)
      | some i => if i < env.length then goneS (some i) (noEr (k.s (env.set i (some (.exc x.1 x.2))) st)) else .stuck
    | some false => clauses exm x env st r
    | none => .stuck
def sTry (exm : Str → Str → Option Bool) (b : Sx) (cs : List Cl) : Sx := fun env st => match b env st with
  | .er x e s => clauses exm x e s cs
  | q => q
/-- what exm tells is so -/
def ExmOk (K : PySem.W.Frag) (mg : Str → Option Value) (exm : Str → Str → Option Bool) : Prop := ∀ x c b C D, exm x c = some b → mg x = some (.ref C) → mg c = some (.ref D) → PySem.W.exmOne K (.ref C) (.ref D) = some b
/-- e.f of the exception that is held -/
def eXf (i : Nat) (f : Str) : Ex := fun env st => match env[i]? with
  | some (some (.exc _ fs)) => match fs.lookup f with
    | some v => .ok v st
    | none => .stuck
  | _ => .stuck
section
variable (P : Program) (w : World) (K : PySem.W.Frag) (mg : Str → Option Value) (base : Heap) (S : Sc)
/-- a suite without a name, with one -/
def SimU (body : List Stmt) (s : Sx) : Prop := SimSs P w K mg base { S with calm := false, top := false, xi := none } body s
def SimU1 (i : Nat) (body : List Stmt) (s : Sx) : Prop := ∀ a cls d, SimSs P w K mg base { S with calm := false, top := false, xi := some ⟨i, a, cls, d⟩ } body s
end
section
variable {P : Program} {w : World} {K : PySem.W.Frag} {mg : Str → Option Value} {base : Heap} {S : Sc}
variable {e a b c : Expr} {es : List Expr} {ma mb mc : Ex} {aa ab : Ax} {pos pos' : Pos} {body suite : List Stmt} {b₀ : Stmt} {sb ss : Sx} {exm : Str → Str → Option Bool}
variable {ρ ρ' : List Addr} {H H' : Hp} {W : WX} {σ : L2.St} {st : Sto} {xi : Option XI} {env : Env}
theorem XOk.tr {X : Cx} (h : XOk P w K mg base S X) (hxi : S.xi = none) {pn : List (Addr × Obj)} {xe : Value → Shared → Prop} (hp : PassesOwn (model X.prog X.w) X.A X.env xe) : XOk P w K mg base S (X.tr pn xe) :=
  ⟨h.prog, h.w, h.K, h.mg, h.base, h.N, h.scope, h.calm, h.room, h.top, h.fn, hp, h.gd, fun ξ hξ => by rw [hxi] at hξ; cases hξ⟩
theorem XOk.suite0 {X : Cx} (h : XOk P w K mg base S X) {a : Addr} {pn : List (Addr × Obj)} : XOk P w K mg base { S with calm := false, top := false, xi := none } (X.suite a pn) :=
  ⟨h.prog, h.w, h.K, h.mg, h.base, h.N, h.scope, rfl, fun q => Bool.noConfusion q, fun q => Bool.noConfusion q, h.fn, PassesOwn.never, h.gd, fun ξ hξ => by cases hξ⟩
theorem XOk.suite1 {X : Cx} (h : XOk P w K mg base S X) {i : Nat} {a : Addr} {cls : Value} {d : Option Addr} {oe : Obj} {pn : List (Addr × Obj)} (hz : Zc cls d oe) (hf : ∃ vs, oe.data = .fields vs) : XOk P w K mg base { S with calm := false, top := false, xi := some ⟨i, a, cls, d⟩ } (X.suite a ((a, oe) :: pn)) :=
  ⟨h.prog, h.w, h.K, h.mg, h.base, h.N, h.scope, rfl, fun q => Bool.noConfusion q, fun q => Bool.noConfusion q, h.fn, PassesOwn.never, h.gd, fun ξ hξ => by cases hξ; exact ⟨X, oe, pn, rfl, hz, hf⟩⟩
/-- a suite's wish, seen from the def -/
theorem PostS.noEr {D : Ends} {r : SR} {xi' : Option XI} {W' : WX} (h : PostS K mg W xi ρ H D (noEr r)) (hx : ∀ ρ' H' e σ', RE K mg ρ' H' xi' e σ' → RE K mg ρ' H' xi e σ') : PostS K mg W' xi' ρ H D r := by
  cases r with
  | nx x st' => exact fun ρ'' H'' v e a b => h ρ'' H'' v e a (hx _ _ _ _ b)
  | bk x st' => exact fun ρ'' H'' v e a b => h ρ'' H'' v e a (hx _ _ _ _ b)
  | ct x st' => exact fun ρ'' H'' v e a b => h ρ'' H'' v e a (hx _ _ _ _ b)
  | rt x st' => exact h
  | er x en st' => exact h.elim
  | stuck => exact h
/-- the name's slot forgotten -/
theorem RE.gone {i : Nat} {xi' : Option XI} {env : Env} {σ : L2.St} (h : RE K mg ρ H xi env σ) (hx : xi' = none) : RE K mg ρ H xi' (env.set i none) (σ.set i none) := by
  subst hx
  refine ⟨by simp [h.1], fun j x hj hx => ?_, fun ξ c fs h1 _ => by cases h1⟩
  by_cases hji : j = i
  · subst hji
    by_cases hl : j < env.length
    · rw [List.getElem?_set_self hl] at hj; cases hj
    · rw [List.getElem?_eq_none (by simpa using hl)] at hj; cases hj
  · rw [List.getElem?_set_ne (Ne.symm hji)] at hj ⊢
    exact h.2.1 j x hj hx
theorem RE.hold {i : Nat} {a : Addr} {cls : Value} {d : Option Addr} {x : Xn} {env : Env} {σ : L2.St} (h : RE K mg ρ H xi env σ) (rx : RX K mg ρ H x cls d) (hi : i < env.length) : RE K mg ρ H (some ⟨i, a, cls, d⟩) (env.set i (some (.exc x.1 x.2))) (σ.set i (some (.ref a))) := by
  refine ⟨by simp [h.1], fun j y hj hy => ?_, fun ξ c fs h1 h2 => ?_⟩
  · by_cases hji : j = i
    · subst hji
      rw [List.getElem?_set_self hi] at hj
      cases hj
      exact absurd rfl (hy _ _)
    · rw [List.getElem?_set_ne (Ne.symm hji)] at hj ⊢
      exact h.2.1 j y hj hy
  · cases h1
    simp only at h2 ⊢
    rw [List.getElem?_set_self hi] at h2
    cases h2
    exact ⟨List.getElem?_set_self (by rw [h.1]; exact hi), rx⟩
theorem RE.drop {env : Env} {σ : L2.St} {xi' : Option XI} (h : RE K mg ρ H xi env σ) (hx : xi' = none) : RE K mg ρ H xi' env σ := by
  subst hx; exact ⟨h.1, h.2.1, fun ξ c fs h1 _ => by cases h1⟩
/-- the clauses as the handlers want them -/
inductive SimHs (P : Program) (w : World) (K : PySem.W.Frag) (mg : Str → Option Value) (base : Heap) (S : Sc) : List ExceptHandler → List Cl → Prop
  | nil : SimHs P w K mg base S [] []
  | cons {x : Str} {D : Addr} {b₀ : Stmt} {suite : List Stmt} {np pos' : Pos} {hds : List ExceptHandler} {l : List Cl} {s : Sx} (hg : S.sc.names.lookup x = some .globalImplicit) (hd : (x == ("__debug__" : Str)) = false) (hm : mg x = some (.ref D))
      (hs : SimU P w K mg base S (b₀ :: suite) s) (r : SimHs P w K mg base S hds l) : SimHs P w K mg base S (.ExceptHandler (some (.Name x np)) none (b₀ :: suite) pos' :: hds) (⟨x, none, s⟩ :: l)
/-- try: .. except A: .. except B: .. -/
theorem simS_try {h₀ : ExceptHandler} {hds : List ExceptHandler} {cs : List Cl} (hx : ExmOk K mg exm) (htop : S.top = true) (hxi : S.xi = none) (hb : SimSs P w K mg base S body sb) (hh : SimHs P w K mg base S (h₀ :: hds) cs) : SimS P w K mg base S (.Try body (h₀ :: hds) [] [] pos) (sTry exm sb cs) := fun X W hX tk => by
  obtain ⟨rfl, rfl, rfl, rfl, rfl, hN, hsc, hcm, hrm, htp, hfn, hps, hgd, hsu⟩ := hX
  have hX : XOk X.prog X.w X.K X.mg X.base S X := ⟨rfl, rfl, rfl, rfl, rfl, hN, hsc, hcm, hrm, htp, hfn, hps, hgd, hsu⟩
  obtain ⟨hst, hfr⟩ := htp htop
  -- the handlers, and what they wish
  have key : ∀ {hs : List ExceptHandler} {cs : List Cl}, SimHs X.prog X.w X.K X.mg X.base S hs cs → ∃ l, HdsOk X hs l ∧
      ∀ (D : Ends) (ρ : List Addr) (H : Hp) (σ : L2.St) (env : Env) (st : Sto) (x : Xn) (cls : Value) (d : Option Addr), RS X.K X.mg ρ H st → RE X.K X.mg ρ H none env σ → RX X.K X.mg ρ H x cls d → PostS X.K X.mg W none ρ H D (clauses exm x env st cs) → wMany X.K W D l cls d σ H := by
    intro hs cs h
    induction h with
    | nil => exact ⟨[], .nil, fun D ρ H σ env st x cls d rs re rx h => h ρ H σ cls d .refl rs re rx⟩
    | @cons x D b₀ suite np pos' hds l s hg hd hm hs r ih =>
      obtain ⟨l', h1, h2⟩ := ih
      refine ⟨(.ref D, fun a cls d => tS X.K X.mg (fun _ _ _ _ => False) none s) :: l', .cons ⟨show X.env.scope.names.lookup x = _ by rw [← hsc]; exact hg, hd, .inl hm⟩ (fun a oe cls d pn hz hf => hs _ _ hX.suite0 takes0) h1, fun D' ρ H σ env st x' cls d rs re rx h => ?_⟩
      obtain ⟨C, q1, q2, q3⟩ := id rx
      unfold clauses at h
      cases qe : exm x'.1 x with
      | none => simp only [qe] at h; exact h.elim
      | some b =>
        simp only [qe] at h
        refine ⟨b, by rw [q2]; exact hx _ _ b C D qe q1 hm, fun hbt a ha => ?_, fun hbf => ?_⟩
        · subst hbt
          exact ⟨ρ, st, env, rs, re, h.noEr fun _ _ _ _ q => q⟩
        · subst hbf
          exact h2 D' ρ H σ env st x' cls d rs re rx h
  obtain ⟨l, hl1, hl2⟩ := key hh
  refine PS.imp (ps_try_many (tb := fun W' => tS X.K X.mg W' S.xi sb) hst hfr tk (fun W' pn xe tk' hp => hb _ W' (hX.tr hxi hp) tk') hl1) fun D σ H ⟨ρ, st, env, rs, re, h⟩ => ⟨ρ, st, env, rs, re, ?_⟩
  unfold sTry at h
  cases q : sb env st with
  | er x e s =>
    rw [q] at h
    rw [hxi] at h ⊢
    exact fun ρ1 H1 σ1 cls d e1 rs1 re1 rx => hl2 D ρ1 H1 σ1 e s x cls d rs1 re1 rx (PostS.mono h e1)
  | nx e s => rw [q] at h; exact h
  | bk e s => rw [q] at h; exact h
  | ct e s => rw [q] at h; exact h
  | rt e s => rw [q] at h; exact h
  | stuck => rw [q] at h; exact h
end
end Sm

/-! The Sim layer, part 8: comprehensions; what an except suite reads. -/
namespace Sm
open PySem L2
def wipeE (env : Env) : List Nat → Env
  | [] => env
  | v :: vs => (wipeE env vs).set v none
def noErR {α : Type} (r : R α) : R α := match r with
  | .err _ _ => .stuck
  | q => q
open Classical in
/-- the turns of a comprehension; the new list is the D-th object -/
noncomputable def lcL (gd : List (Nat × Ob)) (g : Gx) (t : Tx) (m : Ex) (env : Env) (D : Nat) : List Val → Sto → R Unit
  | [], st => if ∀ p ∈ gd, st[p.1]? = some p.2 then .ok () st else .stuck
  | x :: r, st => if ∀ p ∈ gd, st[p.1]? = some p.2 then (match g x env with
    | none => .stuck
    | some env1 => (noErR (t env1 st)).bind fun b st1 => if b then (noErR (m env1 st1)).bind fun y st2 => (match st2[D]? with
        | some (.lst acc) => if acc.length < 16777216 then lcL gd g t m env D r (st2.set D (.lst (acc ++ [y]))) else .stuck
        | _ => .stuck) else lcL gd g t m env D r st1) else .stuck
noncomputable def eLc (mi : Ix) (g : Gx) (t : Tx) (m : Ex) (vs : List Nat) : Ex := fun env st => (mi env st).bind fun xg st1 => (lcL xg.2 g t m (wipeE env vs) st1.length xg.1 (st1 ++ [.lst []])).bind fun _ st2 => .ok (.loc st1.length) st2
def tYes' : Tx := fun _ st => .ok true st
section
variable (P : Program) (w : World) (K : PySem.W.Frag) (mg : Str → Option Value) (base : Heap) (S : Sc)
def SimP (ifs : List Expr) (m : Tx) : Prop := ∀ X W, XOk P w K mg base S X → Takes X W → PTs X ifs (tT K mg W S.xi m)
end
/-- within a comprehension -/
def Sc.blk (S : Sc) (scope : Scope) : Sc := { S with sc := relS scope S.sc, top := false, fn := fun x => scope.names.lookup x == some .cell, xi := none }
section
variable {P : Program} {w : World} {K : PySem.W.Frag} {mg : Str → Option Value} {base : Heap} {S : Sc}
variable {e a b c : Expr} {es : List Expr} {ma mb mc : Ex} {ta tb : Tx} {aa ab : Ax} {pos pos' : Pos} {ga : Gx} {mi : Ix}
variable {ρ ρ' : List Addr} {H H' : Hp} {W : WX} {σ : L2.St} {st : Sto} {xi : Option XI} {env : Env}
theorem simP_nil : SimP P w K mg base S [] tYes' := fun X W hX tk => ⟨fun pins s σ H Q I ⟨ρ, st, env, rs, re, h⟩ => pts_nil.run pins s σ H Q I (h ρ H true .refl rs rfl)⟩
theorem simP_one (h : SimT P w K mg base S c ta) : SimP P w K mg base S [c] ta := fun X W hX tk => pts_one (h X W hX tk)
theorem RE.wipe (re : RE K mg ρ H xi env σ) : ∀ vs : List Nat, RE K mg ρ H none (wipeE env vs) (L2.wipe σ vs)
  | [] => re.drop rfl
  | v :: vs => (RE.wipe re vs).gone rfl
theorem wipe_get {i : Nat} : ∀ {vs : List Nat} {σ : L2.St}, i ∈ vs → (L2.wipe σ vs)[i]? = if i < σ.length then some none else none
  | [], _, h => by cases h
  | v :: vs, σ, h => by
    unfold L2.wipe
    by_cases hi : i = v
    · subst hi
      by_cases hl : i < σ.length
      · rw [List.getElem?_set_self (by rw [wipe_length]; exact hl), if_pos hl]
      · rw [List.getElem?_eq_none (by rw [List.length_set, wipe_length]; omega), if_neg hl]
    · rw [List.getElem?_set_ne (Ne.symm hi)]
      exact wipe_get ((List.mem_cons.mp h).resolve_left hi)
theorem wipe_agr {vs : List Nat} {σ σ' : L2.St} (h : Agr vs (L2.wipe σ vs) σ') : L2.wipe σ' vs = L2.wipe σ vs := by
  have hl : σ'.length = σ.length := by rw [h.1, wipe_length]
  refine List.ext_getElem? fun i => ?_
  by_cases hi : i ∈ vs
  · rw [wipe_get hi, wipe_get hi, hl]
  · rw [wipe_out hi]; exact h.2 i hi
theorem XOk.blk {X : Cx} (h : XOk P w K mg base S X) {s : Shared} {H : Hp} {scope : Scope} {cl : List (Str × Addr)} {C : Addr} {fp : List Addr} : XOk P w K mg base (S.blk scope) (X.blk s H scope (compEnvC scope cl C X.env) fp) :=
  ⟨h.prog, h.w, h.K, h.mg, h.base, h.N, (show relS scope S.sc = relS scope X.env.scope by rw [h.scope]), h.calm, h.room, fun q => Bool.noConfusion q, fun _ q => q, PassesOwn.never, h.gd, fun ξ hξ => by cases hξ⟩
theorem Post.noErR {α β : Type} {rel : List Addr → Hp → α → β → Prop} {Q : β → Hp → Prop} {r : R α} {W' : WX} (h : Post K mg rel W ρ H σ Q (noErR r)) : Post K mg rel W' ρ H σ Q r := by
  cases r with
  | ok x s => exact h
  | err x s => exact h.elim
  | stuck => exact h
/-- a comprehension's reading, from what it comes to -/
theorem lc_reading {vs : List Nat} {Q : VK} (rs : RS K mg ρ H st) (re : RE K mg ρ H xi env σ) (h : PostE K mg W ρ H σ Q (eLc mi ga ta ma vs env st)) :
    tLc (tI K mg W xi mi) (tG K mg none vs ga) (tT K mg (fun _ _ _ _ => False) none ta) (tE K mg (fun _ _ _ _ => False) none ma) vs σ H Q := by
  refine ⟨ρ, st, env, rs, re, Post.bind h fun ρ1 H1 st1 xg J _ e1 rs1 rI p1 => ?_⟩
  intro D hD
  have re1 := (re.mono e1).wipe (vs)
  have eD : Ext ρ1 H1 (ρ1 ++ [D]) (upd H1 D (.lst [])) := .snoc hD
  have rsD := rs1.snoc (u := .lst []) (o := .lst []) hD ⟨[], upd_same, .nil⟩
  have hDl : (ρ1 ++ [D])[st1.length]? = some D := by rw [← rs1.len]; simp
  refine ⟨fun i m H' => ∃ ρ' st', Ext (ρ1 ++ [D]) (upd H1 D (.lst [])) ρ' H' ∧ RS K mg ρ' H' st' ∧ m = xg.1.length - i ∧ i ≤ xg.1.length ∧
      PostE K mg W ρ' H' σ Q ((lcL xg.2 ga ta ma (wipeE env (vs)) st1.length (xg.1.drop i) st').bind fun _ st2 => .ok (.loc st1.length) st2),
    ⟨xg.1.length, ρ1 ++ [D], st1 ++ [.lst []], .refl, rsD, by simp, by simp, by simpa using Post.mono p1 eD⟩, ?_⟩
  rintro i m H' ⟨ρ', st', e', rs', rfl, hi, p'⟩
  have eT := eD.trans e'
  by_cases hlt : i < xg.1.length
  · right
    have hx : xg.1[i]? = some xg.1[i] := List.getElem?_eq_getElem hlt
    rw [List.drop_eq_getElem_cons hlt] at p'
    unfold lcL at p'
    split at p'
    · rename_i hgd
      obtain ⟨h1, h2⟩ := (rI ρ' H' st' eT rs' hgd).2 i _ hx
      refine ⟨h1, fun H2 => ∃ ρ2 st2, Ext (ρ1 ++ [D]) (upd H1 D (.lst [])) ρ2 H2 ∧ RS K mg ρ2 H2 st2 ∧ PostE K mg W ρ2 H2 σ Q ((lcL xg.2 ga ta ma (wipeE env (vs)) st1.length (xg.1.drop (i + 1)) st2).bind fun _ st2 => .ok (.loc st1.length) st2), ?_, fun v H'' hy => ?_⟩
      · rintro H2 ⟨ρ2, st2, e2, rs2, p2⟩
        exact ⟨xg.1.length - (i + 1), by omega, ρ2, st2, e2, rs2, rfl, by omega, p2⟩
      · obtain ⟨f1, f2, f3⟩ := h2 v H'' hy
        refine ⟨ρ', st', wipeE env (vs), xg.1[i], f2, ?_, f3, ?_⟩
        · exact (re1.mono eT).mono f1
        cases q : ga xg.1[i] (wipeE env (vs)) with
        | none => rw [q] at p'; exact p'.elim
        | some env1 =>
          rw [q] at p'
          dsimp only at p'
          have ef := e'.trans f1
          refine fun ρ2 H2 σ2 e2 rs2 re2 g2 => ⟨wipe_agr g2, ρ2, st', env1, rs2, re2, Post.noErR (W := W) ?_⟩
          have p2 := Post.mono p' (f1.trans e2)
          -- the test
          cases qt : noErR (ta env1 st') with
          | stuck => rw [qt] at p2; exact p2.elim
          | err x s => rw [qt] at p2; cases q3 : ta env1 st' <;> rw [q3] at qt <;> cases qt
          | ok b st3 =>
            rw [qt] at p2
            intro ρ3 H3 b' e3 rs3 hb
            cases hb
            have p3 := Post.mono p2 e3
            simp only [R.bind_ok] at p3
            cases b with
            | false => rw [if_neg (by simp)]; rw [if_neg (by simp)] at p3; exact ⟨ρ3, st3, (ef.trans e2).trans e3, rs3, p3⟩
            | true =>
              rw [if_pos rfl]
              rw [if_pos rfl] at p3
              refine ⟨ρ3, st3, env1, rs3, re2.mono e3, Post.noErR (W := W) ?_⟩
              cases qe : noErR (ma env1 st3) with
              | stuck => rw [qe] at p3; exact p3.elim
              | err x s => rw [qe] at p3; cases q4 : ma env1 st3 <;> rw [q4] at qe <;> cases qe
              | ok y st4 =>
                rw [qe] at p3
                intro ρ4 H4 v4 e4 rs4 rv4
                have p4 := Post.mono p3 e4
                simp only [R.bind_ok] at p4
                have eA := ((ef.trans e2).trans e3).trans e4
                have hD4 : ρ4[st1.length]? = some D := eA.at hDl
                cases q5 : st4[st1.length]? with
                | none => rw [q5] at p4; exact p4.elim
                | some ob =>
                  rw [q5] at p4
                  cases ob with
                  | lst acc =>
                    simp only at p4
                    obtain ⟨us, w1, w2⟩ := rs4.at q5 hD4
                    split at p4
                    · rename_i hz
                      have hz' : us.length < sizeLine := by rw [w2.length, sizeLine_eq]; exact hz
                      have eS := rs4.ext (u := .lst (us ++ [v4])) hD4
                      refine ⟨us, w1, hz', ρ4, st4.set st1.length (.lst (acc ++ [y])), eA.trans eS, rs4.set hD4 ⟨us ++ [v4], upd_same, (w2.append (.cons rv4 .nil)).mono eS⟩, Post.mono p4 eS⟩
                    · exact p4.elim
                  | _ => exact p4.elim
    · exact p'.elim
  · left
    rw [List.drop_eq_nil_of_le (by omega)] at p'
    unfold lcL at p'
    split at p'
    · rename_i hgd
      refine ⟨(rI ρ' H' st' eT rs' hgd).1 i (by omega), p' ρ' H' _ .refl rs' ?_⟩
      rw [RV]
      exact ⟨D, rfl, e'.at hDl⟩
    · exact p'.elim
/-- [elt for tg in iter if ..] -/
theorem simE_lc {elt tg iter : Expr} {ifs : List Expr} {scope : Scope} {own : List (Str × Nat)} (hc : S.calm = true) (hN : S.N.Nodup) (hi : SimI P w K mg base S tg iter mi) (ok : BlkOk S.N S.sc scope own) (hg : SimG P w K mg base (S.blk scope) tg (own.map (·.2)) ga)
    (ht : SimP P w K mg base (S.blk scope) ifs ta) (he : SimE P w K mg base (S.blk scope) elt ma) (hs : ∀ env x, foldedSetIterable iter env x = pure x) :
    SimE P w K mg base S (.ListComp elt [⟨tg, iter, ifs, 0⟩] scope pos) (eLc mi ga ta ma (own.map (·.2))) := fun X W hX tk =>
  PE.imp (pe_lc (own := own) (by rw [← hX.calm]; exact hc) (by rw [← hX.N]; exact hN) (hi X W hX tk) (by rw [← hX.N, ← hX.scope]; exact ok) (fun s H C cl fp => hg _ hX.blk) (fun s H C cl fp => ht _ (fun _ _ _ _ => False) hX.blk takes0) (fun s H C cl fp => he _ (fun _ _ _ _ => False) hX.blk takes0) (hs _)) fun σ H Q ⟨ρ, st, env, rs, re, h⟩ => lc_reading rs re h
/-- y = [elt for tg in iter if ..], y a local -/
theorem simS_setLc {elt tg iter : Expr} {ifs : List Expr} {scope : Scope} {own : List (Str × Nat)} {i : Nat} {y : Str} {py spos : Pos} (hc : S.calm = true) (hN : S.N.Nodup) (hk : S.sc.kind = .function) (hy : S.N[i]? = some y) (hyl : S.sc.names.lookup y = some .local) (hl : (py.line == pos.line) = true)
    (hno : (scope.names.any fun (n, k) => n == y && (k == .local || k == .cell)) = false) (hi : SimI P w K mg base S tg iter mi) (ok : BlkOk S.N S.sc scope own) (hg : SimG P w K mg base (S.blk scope) tg (own.map (·.2)) ga)
    (ht : SimP P w K mg base (S.blk scope) ifs ta) (he : SimE P w K mg base (S.blk scope) elt ma) (hs : ∀ env x, foldedSetIterable iter env x = pure x) :
    SimS P w K mg base S (.Assign [.Name y py] (.ListComp elt [⟨tg, iter, ifs, 0⟩] scope pos) spos) (sAsg (eLc mi ga ta ma (own.map (·.2))) (gNm i)) := fun X W hX tk =>
  PS.imp (ps_setLc (i := i) (own := own) (by rw [← hX.calm]; exact hc) (by rw [← hX.N]; exact hN) (by rw [← hX.N]; exact hy) (by rw [← hX.scope]; exact hyl) (sw_true (by rw [← hX.scope]; exact hk) (by rw [← hX.scope]; exact hyl) hl hno) (hi X W hX tk) (by rw [← hX.N, ← hX.scope]; exact ok) (fun s H C cl fp => hg _ hX.blk) (fun s H C cl fp => ht _ (fun _ _ _ _ => False) hX.blk takes0) (fun s H C cl fp => he _ (fun _ _ _ _ => False) hX.blk takes0) (hs _)) fun D σ H ⟨ρ, st, env, rs, re, h⟩ =>
    lc_reading rs re (PostS.bind h re fun ρ1 H1 st1 x v _ e1 rs1 rv p1 => p1 ρ1 H1 _ .refl rs1 ((re.mono e1).set rv))
/-! ### an except clause with a name; what it reads -/
/-- try: .. except x as n: suite -/
theorem simS_tryAs {x n : Str} {D : Addr} {i : Nat} {b₀ : Stmt} {body suite : List Stmt} {np pos' : Pos} {sb ss : Sx} {exm : Str → Str → Option Bool} (hx : ExmOk K mg exm) (htop : S.top = true) (hxi : S.xi = none) (hN : S.N.Nodup) (hi : S.N[i]? = some n) (hn : S.sc.names.lookup n = some .local)
    (hg : S.sc.names.lookup x = some .globalImplicit) (hd : (x == ("__debug__" : Str)) = false) (hm : mg x = some (.ref D)) (hb : SimSs P w K mg base S body sb) (hs : SimU1 P w K mg base S i (b₀ :: suite) ss) :
    SimS P w K mg base S (.Try body [.ExceptHandler (some (.Name x np)) (some n) (b₀ :: suite) pos'] [] [] pos) (sTry exm sb [⟨x, some i, ss⟩]) := fun X W hX tk => by
  obtain ⟨rfl, rfl, rfl, rfl, rfl, hN', hsc, hcm, hrm, htp, hfn, hps, hgd, hsu⟩ := hX
  have hX : XOk X.prog X.w X.K X.mg X.base S X := ⟨rfl, rfl, rfl, rfl, rfl, hN', hsc, hcm, hrm, htp, hfn, hps, hgd, hsu⟩
  obtain ⟨hst, hfr⟩ := htp htop
  refine PS.imp (ps_try_as (tb := fun W' => tS X.K X.mg W' S.xi sb) (ts := fun a cls d => tS X.K X.mg (fun _ _ _ _ => False) (some ⟨i, a, cls, d⟩) ss) hst hfr (by rw [← hN']; exact hN) (by rw [← hN']; exact hi) (show X.env.scope.names.lookup n = _ by rw [← hsc]; exact hn)
    ⟨show X.env.scope.names.lookup x = _ by rw [← hsc]; exact hg, hd, .inl hm⟩ tk (fun W' pn xe tk' hp => hb _ W' (hX.tr hxi hp) tk') (fun a oe cls d pn hz hf => hs a cls d _ _ (hX.suite1 hz hf) takes0)) fun E σ H ⟨ρ, st, env, rs, re, h⟩ => ⟨ρ, st, env, rs, re, ?_⟩
  unfold sTry at h
  cases q : sb env st with
  | er x' e s =>
    rw [q] at h
    rw [hxi] at h ⊢
    refine fun ρ1 H1 σ1 cls d e1 rs1 re1 rx => ?_
    have h1 := PostS.mono h e1
    obtain ⟨C, q1, q2, q3⟩ := id rx
    unfold clauses at h1
    cases qe : exm x'.1 x with
    | none => simp only [qe] at h1; exact h1.elim
    | some b =>
      simp only [qe] at h1
      refine ⟨b, by rw [q2]; exact hx _ _ b C D qe q1 hm, fun hbt a ha => ?_, fun hbf => ?_⟩
      · subst hbt
        dsimp only at h1
        have hil : i < e.length := by
          by_cases hil : i < e.length
          · exact hil
          · rw [if_neg hil] at h1; exact h1.elim
        rw [if_pos hil] at h1
        refine ⟨ρ1, s, e.set i (some (.exc x'.1 x'.2)), rs1, re1.hold rx hil, ?_⟩
        cases q4 : ss (e.set i (some (.exc x'.1 x'.2))) s with
        | nx e2 s2 => rw [q4] at h1; exact fun ρ2 H2 σ2 e3 rs2 re2 => h1 ρ2 H2 _ e3 rs2 (re2.gone rfl)
        | bk e2 s2 => rw [q4] at h1; exact fun ρ2 H2 σ2 e3 rs2 re2 => h1 ρ2 H2 _ e3 rs2 (re2.gone rfl)
        | ct e2 s2 => rw [q4] at h1; exact fun ρ2 H2 σ2 e3 rs2 re2 => h1 ρ2 H2 _ e3 rs2 (re2.gone rfl)
        | rt v2 s2 => rw [q4] at h1; exact h1
        | er x2 e2 s2 => rw [q4] at h1; exact h1.elim
        | stuck => rw [q4] at h1; exact h1.elim
      · subst hbf
        exact h1 ρ1 H1 σ1 cls d .refl rs1 re1 rx
  | nx e s => rw [q] at h; exact h
  | bk e s => rw [q] at h; exact h
  | ct e s => rw [q] at h; exact h
  | rt e s => rw [q] at h; exact h
  | stuck => rw [q] at h; exact h
/-- which fields of which errors may be read -/
def XfOk (K : PySem.W.Frag) (mg : Str → Option Value) (xf : Str → Str → Bool) : Prop := ∀ c f C, xf c f = true → mg c = some (.ref C) → XfC K C ∧ PySem.W.findIn K (.ref C) f = some none
/-- e.f, e the exception that is held -/
def eXf' (xf : Str → Str → Bool) (i : Nat) (f : Str) : Ex := fun env st => match env[i]? with
  | some (some (.exc c fs)) => if xf c f then (match fs.lookup f with
    | some v => .ok v st
    | none => .stuck) else .stuck
  | _ => .stuck
theorem simE_xf {xf : Str → Str → Bool} {ξ : XI} {n f : Str} {np : Pos} (hx : XfOk K mg xf) (hxi : S.xi = some ξ) (hN : S.N[ξ.i]? = some n) (hv : Vis S.sc n) (hd : (n == ("__debug__" : Str)) = false := by decide) (hcd : (n == ("__classdict__" : Str)) = false := by decide) :
    SimE P w K mg base S (.Attribute (.Name n np) f pos) (eXf' xf ξ.i f) := fun X W hX tk => by
  obtain ⟨rfl, rfl, rfl, rfl, rfl, hN', hsc, hcm, hrm, htp, hfn, hps, hgd, hsu⟩ := hX
  obtain ⟨X0, oe, pn, rfl, hz, hf⟩ := hsu ξ hxi
  have hvar : PE (X0.suite ξ.a ((ξ.a, oe) :: pn)) (.Name n np) (tVar ξ.i) := pe_var (by rw [← hN']; exact hN) (by rw [← hsc]; exact hv) hd hcd
  refine ⟨fun pins s σ H Q I ⟨ρ, st, env, rs, re, h⟩ => ?_⟩
  unfold eXf' at h
  split at h
  · rename_i c fs henv
    split at h
    · rename_i hxf
      split at h
      · rename_i v hv'
        obtain ⟨h1, C, h2, h3, h4⟩ := re.2.2 ξ c fs hxi henv
        obtain ⟨hC, hno⟩ := hx c f C hxf h2
        refine (pe_xf (C := C) hC hno hz hf hvar rfl).run pins s σ H Q I ⟨_, h1, rfl, h3, ?_⟩
        rcases h4 with ⟨e1, _⟩ | ⟨dd, ps, e1, e2, e3⟩
        · have e1' : fs = [] := e1
          rw [e1'] at hv'; cases hv'
        · obtain ⟨u, hu, ru⟩ := e3.lookup hv'
          exact ⟨dd, ps, u, e1, e2, hu, h ρ H u .refl rs ru⟩
      · exact h.elim
    · exact h.elim
  · exact h.elim
/-- what isinstance tells of an error of the class c -/
structure IsxC (K : PySem.W.Frag) (D : Addr) : Prop where
  hc : (PySem.W.clsIn K D).isSome = true
  hg : PySem.W.findIn K (.ref D) "__getattribute__" = some (some (.builtin "BaseException.__getattribute__"))
  hk : PySem.W.findIn K (.ref D) "__getattr__" = some none
  hs : PySem.W.subIn K (.ref D) (.type "BaseException") = some true
  ha : PySem.W.findIn K (.ref D) "__class__" = some (some (.builtin "object.__class__"))
  hn : PySem.W.specialIn K (.builtin "object.__class__") "__get__" = some (some (.builtin "getset_descriptor.__get__"))
  ht : PySem.W.takesIn K (.builtin "object.__class__") = some true
  hm : PySem.W.mroIn K D (.type "object") = some true
def IsxOk (K : PySem.W.Frag) (mg : Str → Option Value) (isx : Str → Str → Option Bool) : Prop := ∀ c t b C D, isx c t = some b → mg c = some (.ref C) → mg t = some (.ref D) → IsxC K C ∧ PySem.W.kitOne K (.ref C) (.ref D) = some b
def eXis (isx : Str → Str → Option Bool) (i : Nat) (t : Str) : Ex := fun env st => match env[i]? with
  | some (some (.exc c _)) => (match isx c t with
    | some b => .ok (.bl b) st
    | none => .stuck)
  | _ => .stuck
theorem simE_xis {isx : Str → Str → Option Bool} {ξ : XI} {n t : Str} {D : Addr} {np tp p : Pos} (hx : IsxOk K mg isx) (hxi : S.xi = some ξ) (hN : S.N[ξ.i]? = some n) (hv : Vis S.sc n) (hg : S.sc.names.lookup ("isinstance" : Str) = some .globalImplicit) (hm : mg "isinstance" = none) (hgt : S.sc.names.lookup t = some .globalImplicit) (hmt : mg t = some (.ref D)) (hdt : (t == ("__debug__" : Str)) = false := by decide)
    (hd : (n == ("__debug__" : Str)) = false := by decide) (hcd : (n == ("__classdict__" : Str)) = false := by decide) :
    SimE P w K mg base S (.Call (.Name "isinstance" p) [.Name n np, .Name t tp] [] pos) (eXis isx ξ.i t) := fun X W hX tk => by
  obtain ⟨rfl, rfl, rfl, rfl, rfl, hN', hsc, hcm, hrm, htp, hfn, hps, hgd, hsu⟩ := hX
  obtain ⟨X0, oe, pn, rfl, hz, hf⟩ := hsu ξ hxi
  have hvar : PE (X0.suite ξ.a ((ξ.a, oe) :: pn)) (.Name n np) (tVar ξ.i) := pe_var (by rw [← hN']; exact hN) (by rw [← hsc]; exact hv) hd hcd
  have hcls : PE (X0.suite ξ.a ((ξ.a, oe) :: pn)) (.Name t tp) (tC (.ref D)) := pe_glob (show X0.env.scope.names.lookup t = _ by rw [← show S.sc = X0.env.scope from hsc]; exact hgt) hmt rfl hdt
  refine ⟨fun pins s σ H Q I ⟨ρ, st, env, rs, re, h⟩ => ?_⟩
  unfold eXis at h
  split at h
  · rename_i c fs henv
    split at h
    · rename_i b hb
      obtain ⟨h1, C, h2, h3, h4⟩ := re.2.2 ξ c fs hxi henv
      obtain ⟨hC, hkit⟩ := hx c t b C D hb h2 hmt
      have call : CallR (X0.suite ξ.a ((ξ.a, oe) :: pn)) (.builtin "isinstance") (fun xs H2 Q' => xs = [.ref ξ.a, .ref D] ∧ H = H2 ∧ Q' (.bl b) H2) := by
        intro pins2 s2 σ2 H2 xs us Q' I2 r hq
        obtain ⟨rfl, rfl, q⟩ := hq
        cases r with
        | cons rx rr =>
          cases rr with
          | cons rt rr =>
            cases rr
            cases rx
            cases rt
            obtain ⟨hget, _⟩ := I2.pin (ξ.a, oe) (List.mem_append.mpr (.inl List.mem_cons_self))
            obtain ⟨vs, hv⟩ := hf
            have fin : ∀ od, PySem.W.InstAt s2.heap ξ.a oe C od → wpAny (model X0.prog X0.w) (X0.suite ξ.a ((ξ.a, oe) :: pn)).A (PySem.call (.builtin "isinstance") [.ref ξ.a, .ref D]) (EP (X0.suite ξ.a ((ξ.a, oe) :: pn)) pins2 σ2 Q') (X0.suite ξ.a ((ξ.a, oe) :: pn)).xe s2 := fun od J =>
              PySem.W.kia_one (PySem.W.kitx_exc hC.hc hC.hg hC.hk hC.hs hC.ha hC.hn hC.ht hC.hm) I2.kIn J hkit (fun z => nomatch z) fun tk => ⟨.bl b, H, I2.kept (t' := tk) fun _ _ z => z, rfl, q⟩
            rcases h4 with ⟨_, e2⟩ | ⟨dd, ps, e1, e2, e3⟩
            · refine fin none ⟨hget, hz.1.trans h3, by unfold PySem.W.notCls; rw [hv] <;> rfl, ?_⟩
              rw [hz.2, e2]; trivial
            · have hxo : ObjOk X0.prog X0.w H s2.heap dd (.xd ps) := I2.hok dd _ e2
              obtain ⟨mA, hns, hr⟩ := hxo
              obtain ⟨od, ho, hl⟩ := lookIn_ns hns
              refine fin (some od) ⟨hget, hz.1.trans h3, by unfold PySem.W.notCls; rw [hv] <;> rfl, ?_⟩
              rw [hz.2, e1]; exact ho
      exact (pe_callB call (show X0.env.scope.names.lookup ("isinstance" : Str) = _ by rw [← show S.sc = X0.env.scope from hsc]; exact hg) hm (by decide +kernel) (pa_cons hvar (pa_cons hcls pa_nil rfl) rfl) (by decide) (by decide) rfl rfl).run pins s σ H Q I ⟨_, h1, rfl, rfl, h ρ H _ .refl rs (by rw [RV])⟩
    · exact h.elim
  · exact h.elim
end
end Sm

/-! The Sim layer, part 9: operators, built-ins by values. -/
namespace Sm
open PySem L2

/-! ### ints -/
def oInt (g : Int → Int → Val) (c : Int → Int → Bool) : Val → Val → Sto → R Val
  | .int i, .int j, st => if c i j then .ok (g i j) st else .stuck
  | _, _, _ => .stuck
def tupLen (n : Nat) : Bool := decide (n ≤ 16777216)
def oAdd : Val → Val → Sto → R Val
  | .int i, .int j, st => .ok (.int (i + j)) st
  | .str a, .str b, st => if a.length + b.length ≤ 16777216 then .ok (.str (a ++ b)) st else .stuck
  | .tup a, .tup b, st => if a.length + b.length ≤ 16777216 then .ok (.tup (a ++ b)) st else .stuck
  | .kt a, .tup b, st => if a.length + b.length ≤ 16777216 ∧ a ≠ [] ∧ b ≠ [] then .ok (.tup (a ++ b)) st else .stuck
  | .tup a, .kt b, st => if a.length + b.length ≤ 16777216 ∧ a ≠ [] ∧ b ≠ [] then .ok (.tup (a ++ b)) st else .stuck
  | .loc a, .loc b, st => match st[a]?, st[b]? with
    | some (.lst xs), some (.lst ys) => if xs.length + ys.length ≤ 16777216 then .ok (.loc st.length) (st ++ [.lst (xs ++ ys)]) else .stuck
    | _, _ => .stuck
  | _, _, _ => .stuck
section
variable {P : Program} {w : World} {K : PySem.W.Frag} {mg : Str → Option Value} {base : Heap} {S : Sc}
variable {ρ ρ' : List Addr} {H H' : Hp} {W : WX} {σ : L2.St} {st : Sto} {Q : VK}
theorem okOpI {f : Value → Value → Sem Value} {C : Int → Int → Prop} {g : Int → Int → V} {g' : Int → Int → Val} {c : Int → Int → Bool} (h : ∀ X : Cx, OpR X f (rI C g)) (hc : ∀ i j, c i j = true → C i j) (hg : ∀ ρ H i j, RV K mg ρ H (g' i j) (g i j)) :
    OpOk P w K mg base S f (oInt g' c) := fun X hX => ⟨_, h X, fun ρ H st x y v u W σ Q rs rv ru p => by
  cases x with
  | int i =>
    cases y with
    | int j =>
      rw [RV] at rv ru
      by_cases hcc : c i j = true
      · rw [show oInt g' c (.int i) (.int j) st = .ok (g' i j) st from if_pos hcc] at p
        exact ⟨i, j, rv, ru, hc i j hcc, p ρ H _ .refl rs (hg ρ H i j)⟩
      · rw [show oInt g' c (.int i) (.int j) st = .stuck from if_neg hcc] at p
        exact p.elim
    | _ => exact p.elim
  | _ => exact p.elim⟩
theorem okOpI0 {f : Value → Value → Sem Value} {g : Int → Int → V} {g' : Int → Int → Val} (h : ∀ X : Cx, OpR X f (rI0 g)) (hg : ∀ ρ H i j, RV K mg ρ H (g' i j) (g i j)) : OpOk P w K mg base S f (oInt g' fun _ _ => true) := fun X hX => ⟨_, h X, fun ρ H st x y v u W σ Q rs rv ru p => by
  cases x with
  | int i =>
    cases y with
    | int j =>
      rw [RV] at rv ru
      exact ⟨i, j, rv, ru, p ρ H _ .refl rs (hg ρ H i j)⟩
    | _ => exact p.elim
  | _ => exact p.elim⟩
theorem rvi {i : Int} : RV K mg ρ H (.int i) (.int i) := by rw [RV]
theorem rvb {i : Bool} : RV K mg ρ H (.bl i) (.bl i) := by rw [RV]
theorem ok_sub : OpOk P w K mg base S (binaryOp .Sub) (oInt (fun i j => .int (i - j)) fun _ _ => true) := okOpI0 (fun _ => op_sub) fun _ _ _ _ => rvi
def cMul (i j : Int) : Bool := decide ((Builtin.Int.intBits i : Int) + (Builtin.Int.intBits j : Int) ≤ 134217728)
theorem ok_mod : OpOk P w K mg base S (binaryOp .Mod) (oInt (fun i j => .int (i % j)) fun _ j => decide (0 < j)) := okOpI (fun _ => op_mod) (fun _ _ h => of_decide_eq_true h) fun _ _ _ _ => rvi
theorem ok_fdiv : OpOk P w K mg base S (binaryOp .FloorDiv) (oInt (fun i j => .int (i / j)) fun _ j => decide (0 < j ∧ j.natAbs.log2 < 9000)) := okOpI (fun _ => op_fdivW) (fun i j h => of_decide_eq_true (p := 0 < j ∧ j.natAbs.log2 < 9000) h) fun _ _ _ _ => rvi
theorem ok_pow : OpOk P w K mg base S (binaryOp .Pow) (oInt (fun i j => .int (i ^ j.toNat)) fun i j => decide (0 ≤ j ∧ j ≤ 1000000 ∧ i.natAbs < 2 ^ 64)) := okOpI (fun _ => op_pow) (fun i j h => of_decide_eq_true (p := 0 ≤ j ∧ j ≤ 1000000 ∧ i.natAbs < 2 ^ 64) h) fun _ _ _ _ => rvi
theorem ok_shl : OpOk P w K mg base S (binaryOp .LShift) (oInt (fun i j => .int (i * 2 ^ j.toNat)) fun i j => decide (0 ≤ j ∧ (Builtin.Int.intBits i : Int) + j ≤ 2 ^ 27)) := okOpI (fun _ => op_shlW) (fun i j h => of_decide_eq_true (p := 0 ≤ j ∧ (Builtin.Int.intBits i : Int) + j ≤ 2 ^ 27) h) fun _ _ _ _ => rvi
theorem ok_shr : OpOk P w K mg base S (binaryOp .RShift) (oInt (fun i j => .int (i / 2 ^ j.toNat)) fun _ j => decide (0 ≤ j)) := okOpI (fun _ => op_shr) (fun _ _ h => of_decide_eq_true h) fun _ _ _ _ => rvi
theorem ok_and : OpOk P w K mg base S (binaryOp .BitAnd) (oInt (fun i j => .int (Builtin.bitAnd i j)) fun _ _ => true) := okOpI0 (fun _ => op_and) fun _ _ _ _ => rvi
theorem ok_or : OpOk P w K mg base S (binaryOp .BitOr) (oInt (fun i j => .int (Builtin.bitOr i j)) fun _ _ => true) := okOpI0 (fun _ => op_or) fun _ _ _ _ => rvi
theorem ok_xor : OpOk P w K mg base S (binaryOp .BitXor) (oInt (fun i j => .int (Builtin.bitXor i j)) fun _ _ => true) := okOpI0 (fun _ => op_xor) fun _ _ _ _ => rvi
theorem ok_ltI : OpOk P w K mg base S (compareOp .Lt) (oInt (fun i j => .bl (decide (i < j))) fun _ _ => true) := okOpI0 (fun _ => op_lt) fun _ _ _ _ => rvb
theorem ok_leI : OpOk P w K mg base S (compareOp .LtE) (oInt (fun i j => .bl (decide (i ≤ j))) fun _ _ => true) := okOpI0 (fun _ => op_le) fun _ _ _ _ => rvb
theorem ok_gtI : OpOk P w K mg base S (compareOp .Gt) (oInt (fun i j => .bl (decide (j < i))) fun _ _ => true) := okOpI0 (fun _ => op_gt) fun _ _ _ _ => rvb
theorem ok_geI : OpOk P w K mg base S (compareOp .GtE) (oInt (fun i j => .bl (decide (j ≤ i))) fun _ _ => true) := okOpI0 (fun _ => op_ge) fun _ _ _ _ => rvb
/-- a new tuple -/
theorem newTup {xs : List Val} {vs : List V} {p : Addr} (rs : RS K mg ρ H st) (hp : H p = none) (rv : RVs K mg ρ H xs vs) : Ext ρ H ρ (upd H p (.tup vs)) ∧ RS K mg ρ (upd H p (.tup vs)) st ∧ RV K mg ρ (upd H p (.tup vs)) (.tup xs) (.ref p) := by
  refine ⟨.new hp, rs.new hp, ?_⟩
  rw [RV]
  exact ⟨p, vs, rfl, upd_same, rv.mono (.new hp)⟩
/-- a new list -/
theorem newLst {xs : List Val} {vs : List V} {p : Addr} (rs : RS K mg ρ H st) (hp : H p = none) (rv : RVs K mg ρ H xs vs) : Ext ρ H (ρ ++ [p]) (upd H p (.lst vs)) ∧ RS K mg (ρ ++ [p]) (upd H p (.lst vs)) (st ++ [.lst xs]) ∧ RV K mg (ρ ++ [p]) (upd H p (.lst vs)) (.loc st.length) (.ref p) := by
  refine ⟨.snoc hp, rs.snoc hp ⟨vs, upd_same, rv.mono (.snoc hp)⟩, ?_⟩
  rw [RV]
  exact ⟨p, rfl, by rw [← rs.len]; simp⟩
theorem cat_pure {a b : Addr} {X : Cx} {x y : Val} {xs ys : List Val} {v u : V} (rs : RS K mg ρ H st) (hx : x = .tup xs ∨ x = .kt xs) (hy : y = .tup ys ∨ y = .kt ys) (hl : xs.length + ys.length ≤ 16777216) (h1 : xs = [] → y = .tup ys) (h2 : ys = [] → x = .tup xs) (rv : RV K mg ρ H x v) (ru : RV K mg ρ H y u)
    (p : PostE K mg W ρ H σ Q (.ok (.tup (xs ++ ys)) st)) : rCatA K v u H Q := by
  obtain ⟨a, vs, rfl, q1, q2⟩ := rv.seqT hx
  obtain ⟨b, us, rfl, q3, q4⟩ := ru.seqT hy
  refine ⟨a, b, vs, us, rfl, rfl, q1, q3, by rw [q2.length, q4.length]; exact line_le hl, fun e => ?_, fun e1 e2 => ?_, fun e1 e2 p' hp => ?_⟩
  · have hxs : xs = [] := by have := q2.length; rw [e] at this; exact List.length_eq_zero_iff.mp this.symm
    have hy' := h1 hxs
    subst hy' hxs
    exact p ρ H _ .refl rs ru
  · have hys : ys = [] := by have := q4.length; rw [e2] at this; exact List.length_eq_zero_iff.mp this.symm
    have hx' := h2 hys
    subst hx' hys
    exact p ρ H _ .refl rs (by rw [List.append_nil]; exact rv)
  · obtain ⟨f1, f2, f3⟩ := newTup rs hp (q2.append q4)
    exact p ρ _ _ f1 f2 f3
theorem ok_add : OpOk P w K mg base S (binaryOp .Add) oAdd := fun X hX => by
  have eK := hX.K
  subst eK
  refine ⟨_, op_add.or (op_add_str.or (op_catA.or op_cat)), fun ρ H st x y v u W σ Q rs rv ru p => ?_⟩
  unfold oAdd at p
  split at p
  · rw [RV] at rv ru
    exact .inl ⟨_, _, rv, ru, p ρ H _ .refl rs rvi⟩
  · rw [RV] at rv ru
    split at p
    · exact .inr (.inl ⟨_, _, rv, ru, line_le (by assumption), p ρ H _ .refl rs (by rw [RV])⟩)
    · exact p.elim
  · split at p
    · exact .inr (.inr (.inl (cat_pure (a := 0) (b := 0) (X := X) rs (.inl rfl) (.inl rfl) (by assumption) (fun _ => rfl) (fun _ => rfl) rv ru p)))
    · exact p.elim
  · split at p
    · rename_i hh
      exact .inr (.inr (.inl (cat_pure (a := 0) (b := 0) (X := X) rs (.inr rfl) (.inl rfl) hh.1 (fun _ => rfl) (fun z => absurd z hh.2.2) rv ru p)))
    · exact p.elim
  · split at p
    · rename_i hh
      exact .inr (.inr (.inl (cat_pure (a := 0) (b := 0) (X := X) rs (.inl rfl) (.inr rfl) hh.1 (fun z => absurd z hh.2.1) (fun _ => rfl) rv ru p)))
    · exact p.elim
  · rw [RV] at rv ru
    obtain ⟨a, rfl, ha⟩ := rv
    obtain ⟨b, rfl, hb⟩ := ru
    split at p
    · rename_i xs ys hx hy
      split at p
      · obtain ⟨vs, q1, q2⟩ := rs.at hx ha
        obtain ⟨us, q3, q4⟩ := rs.at hy hb
        refine .inr (.inr (.inr ⟨a, b, vs, us, rfl, rfl, q1, q3, by rw [q2.length, q4.length]; exact line_le (by assumption), fun p' hp => ?_⟩))
        obtain ⟨f1, f2, f3⟩ := newLst rs hp (q2.append q4)
        exact p _ _ _ f1 f2 f3
      · exact p.elim
    · exact p.elim
  · exact p.elim
/-! ### is None -/
def oIsN (neg : Bool) : Val → Val → Sto → R Val
  | .exc _ _, _, _ => .stuck
  | x, .non, st => .ok (.bl (match x with | .non => !neg | _ => neg)) st
  | _, _, _ => .stuck
theorem RV.non_iff {x : Val} {v : V} (h : RV K mg ρ H x v) : decide (v = V.non) = (match x with | .non => true | _ => false) := by
  cases x with
  | non => rw [RV] at h; subst h; rfl
  | bl b => rw [RV] at h; subst h; rfl
  | int b => rw [RV] at h; subst h; rfl
  | str b => rw [RV] at h; subst h; rfl
  | ty b => rw [RV] at h; subst h; rfl
  | tup b => rw [RV] at h; obtain ⟨a, vs, rfl, _⟩ := h; rfl
  | kt b => rw [RV] at h; obtain ⟨a, vs, rfl, _⟩ := h; rfl
  | loc b => rw [RV] at h; obtain ⟨a, rfl, _⟩ := h; rfl
  | fn b => rw [RV] at h; obtain ⟨a, rfl, _⟩ := h; rfl
  | cl b => rw [RV] at h; obtain ⟨a, rfl, _⟩ := h; rfl
  | scr b => rw [RV] at h; obtain ⟨a, rfl, _⟩ := h; rfl
  | exc _ _ => rw [RV] at h; exact h.elim
theorem ok_is : OpOk P w K mg base S (compareOp .Is) (oIsN false) := fun X hX => ⟨_, op_isN, fun ρ H st x y v u W σ Q rs rv ru p => by
  unfold oIsN at p
  split at p
  · exact p.elim
  · rw [RV] at ru
    refine ⟨ru, p ρ H _ .refl rs ?_⟩
    rw [RV, rv.non_iff]
    cases x <;> rfl
  · exact p.elim⟩
theorem ok_isnot : OpOk P w K mg base S (compareOp .IsNot) (oIsN true) := fun X hX => ⟨_, op_notN, fun ρ H st x y v u W σ Q rs rv ru p => by
  unfold oIsN at p
  split at p
  · exact p.elim
  · rw [RV] at ru
    refine ⟨ru, p ρ H _ .refl rs ?_⟩
    rw [RV, rv.non_iff]
    cases x <;> rfl
  · exact p.elim⟩
/-! ### data: ==, in, repr -/
/-- a value as data, lists by what they hold; at most n deep -/
def pd (st : Sto) : Nat → Val → Option PyData
  | _, .non => some .none
  | _, .bl b => some (.bool b)
  | _, .int i => some (.int i)
  | _, .str s => some (.str s)
  | n + 1, .tup xs => (xs.mapM (pd st n)).map .tuple
  | n + 1, .kt xs => (xs.mapM (pd st n)).map .tuple
  | n + 1, .loc l => match st[l]? with
    | some (.lst xs) => (xs.mapM (pd st n)).map .list
    | _ => none
  | _, _ => none
theorem dpAll_of {n : Nat} (ih : ∀ x d v, pd st n x = some d → RV K mg ρ H x v → Dp K H v d) : ∀ {xs : List Val} {ds : List PyData} {vs : List V}, xs.mapM (pd st n) = some ds → RVs K mg ρ H xs vs → DpAll K H vs ds
  | [], ds, vs, h, r => by
    rw [RVs] at r
    subst r
    simp at h
    subst h
    exact .nil
  | x :: xs, ds, vs, h, r => by
    rw [RVs] at r
    obtain ⟨v, r', rfl, r1, r2⟩ := r
    rw [List.mapM_cons] at h
    cases q1 : pd st n x with
    | none => rw [q1] at h; cases h
    | some d =>
      rw [q1] at h
      cases q2 : xs.mapM (pd st n) with
      | none => rw [q2] at h; cases h
      | some ds' =>
        rw [q2] at h
        cases h
        exact .cons (ih x d v q1 r1) (dpAll_of ih q2 r2)
theorem dp_of (rs : RS K mg ρ H st) : ∀ (n : Nat) (x : Val) (d : PyData) (v : V), pd st n x = some d → RV K mg ρ H x v → Dp K H v d := by
  intro n
  induction n with
  | zero =>
    intro x d v h r
    cases x with
    | non => rw [RV] at r; subst r; cases h; exact .non
    | bl b => rw [RV] at r; subst r; cases h; exact .bl b
    | int b => rw [RV] at r; subst r; cases h; exact .int b
    | str b => rw [RV] at r; subst r; cases h; exact .str b
    | _ => cases h
  | succ n ih =>
    intro x d v h r
    cases x with
    | non => rw [RV] at r; subst r; cases h; exact .non
    | bl b => rw [RV] at r; subst r; cases h; exact .bl b
    | int b => rw [RV] at r; subst r; cases h; exact .int b
    | str b => rw [RV] at r; subst r; cases h; exact .str b
    | tup xs =>
      obtain ⟨a, vs, rfl, h1, h2⟩ := r.seqT (.inl rfl)
      have h' : (xs.mapM (pd st n)).map PyData.tuple = some d := h
      cases q : xs.mapM (pd st n) with
      | none => rw [q] at h'; cases h'
      | some ds => rw [q] at h'; cases h'; exact .tup h1 (dpAll_of ih q h2)
    | kt xs =>
      obtain ⟨a, vs, rfl, h1, h2⟩ := r.seqT (.inr rfl)
      have h' : (xs.mapM (pd st n)).map PyData.tuple = some d := h
      cases q : xs.mapM (pd st n) with
      | none => rw [q] at h'; cases h'
      | some ds => rw [q] at h'; cases h'; exact .tup h1 (dpAll_of ih q h2)
    | loc l =>
      rw [RV] at r
      obtain ⟨a, rfl, ha⟩ := r
      have h' : (match st[l]? with | some (.lst xs) => (xs.mapM (pd st n)).map PyData.list | _ => none) = some d := h
      cases q0 : st[l]? with
      | none => rw [q0] at h'; cases h'
      | some ob =>
        rw [q0] at h'
        cases ob with
        | lst xs =>
          dsimp only at h'
          obtain ⟨vs, w1, w2⟩ := rs.at q0 ha
          cases q : xs.mapM (pd st n) with
          | none => rw [q] at h'; cases h'
          | some ds => rw [q] at h'; cases h'; exact .lst (SqL.of w1) (dpAll_of ih q w2)
        | _ => cases h'
    | _ => cases h
def deep : Nat := 40
def oEqD (neg : Bool) : Val → Val → Sto → R Val := fun x y st => match pd st deep x, pd st deep y with
  | some d, some e => if SeqAt.shaped d && SeqAt.shaped e then .ok (.bl (if neg then !PyData.eqv d e else PyData.eqv d e)) st else .stuck
  | _, _ => .stuck
def strPair : Val → Val → Option (Str × Str)
  | .str a, .str b => some (a, b)
  | _, _ => none
def oEq (neg : Bool) : Val → Val → Sto → R Val := fun x y st => match strPair x y with
  | some p => .ok (.bl (if neg then !decide (p.1 = p.2) else decide (p.1 = p.2))) st
  | none => oEqD neg x y st
theorem strPair_some {x y : Val} {p : Str × Str} (h : strPair x y = some p) : x = .str p.1 ∧ y = .str p.2 := by
  unfold strPair at h
  split at h
  · cases h; exact ⟨rfl, rfl⟩
  · cases h
theorem ok_eq (hc : S.calm = true) : OpOk P w K mg base S (compareOp .Eq) (oEq false) := fun X hX => by
  have eK := hX.K
  subst eK
  refine ⟨_, op_eq.or (op_eqD (hX.room hc).units), fun ρ H st x y v u W σ Q rs rv ru p => ?_⟩
  unfold oEq at p
  split at p
  · rename_i q hq
    obtain ⟨e1, e2⟩ := strPair_some hq
    subst e1 e2
    rw [RV] at rv ru
    refine .inl ⟨by rw [rv, ru]; rfl, p ρ H _ .refl rs ?_⟩
    rw [RV, rv, ru]
    simp
  · unfold oEqD at p
    split at p
    · rename_i d e hd he
      split at p
      · rename_i hs
        obtain ⟨s1, s2⟩ := Bool.and_eq_true_iff.mp hs
        exact .inr ⟨d, e, dp_of rs _ _ _ _ hd rv, dp_of rs _ _ _ _ he ru, s1, s2, p ρ H _ .refl rs rvb⟩
      · exact p.elim
    · exact p.elim
theorem ok_ne (hc : S.calm = true) : OpOk P w K mg base S (compareOp .NotEq) (oEq true) := fun X hX => by
  have eK := hX.K
  subst eK
  refine ⟨_, op_ne.or (op_neD (hX.room hc).units), fun ρ H st x y v u W σ Q rs rv ru p => ?_⟩
  unfold oEq at p
  split at p
  · rename_i q hq
    obtain ⟨e1, e2⟩ := strPair_some hq
    subst e1 e2
    rw [RV] at rv ru
    refine .inl ⟨by rw [rv, ru]; rfl, p ρ H _ .refl rs ?_⟩
    rw [RV, rv, ru]
    simp
  · unfold oEqD at p
    split at p
    · rename_i d e hd he
      split at p
      · rename_i hs
        obtain ⟨s1, s2⟩ := Bool.and_eq_true_iff.mp hs
        exact .inr ⟨d, e, dp_of rs _ _ _ _ hd rv, dp_of rs _ _ _ _ he ru, s1, s2, p ρ H _ .refl rs rvb⟩
      · exact p.elim
    · exact p.elim
end
end Sm

/-! The Sim layer: t[::-1] of a tuple. -/
namespace HT
open PySem PySem.Spec PyProof.Rows L2
section
variable {prog : Program} {w : World} {A : Around} {E : Value → Shared → Prop} {s : Shared}
theorem places_rev (n : Nat) : Builtin.Slice.slicePlaces ((n : Int) - 1) (-1) (-1) = n := by
  unfold Builtin.Slice.slicePlaces
  have h1 : ¬ ((-1 : Int) > 0) := by omega
  rw [if_neg h1]
  by_cases h : (n : Int) - 1 > -1
  · rw [if_pos h]
    have e : ((n : Int) - 1 - -1 - 1) / - -1 + 1 = n := by
      rw [show (- -1 : Int) = 1 from rfl, Int.ediv_one]; omega
    rw [e]; rfl
  · rw [if_neg h]
    have : n = 0 := by omega
    subst this
    rfl
theorem adjust_rev (n : Nat) : Builtin.Slice.sliceAdjust none none (-1) (n : Int) = ((n : Int) - 1, -1) := rfl
theorem sliceApplied_rev {sl : Addr} {vl vu vs : Value} {n : Nat} {Q : Int × Int × Nat → Shared → Prop} (hs : s.heap.IsSliceOf sl vl vu vs) (pl : IsPart vl none) (pu : IsPart vu none) (ps : IsPart vs (some (-1)))
    (h : Q ((n : Int) - 1, -1, n) s) : wpAny (model prog w) A (Builtin.Slice.sliceApplied (.ref sl) (pure (n : Int))) Q E s := by
  obtain ⟨os, hos, hcs, hds⟩ := id hs
  unfold Builtin.Slice.sliceApplied Builtin.Slice.sliceFields
  refine wpAny_bind (wpAny_bind (wpAny_field hos hds (x := vl) rfl (wpAny_bind (wpAny_field hos hds (x := vu) rfl (wpAny_bind (wpAny_field hos hds (x := vs) rfl (wpAny_pure ?_)))))))
  refine wpAny_bind (slicePart_ ps ?_)
  show wpAny _ _ (if ((-1 : Int) == 0) = true then _ else _) _ _ s
  rw [if_neg (by decide)]
  refine wpAny_bind (slicePart_ pl (wpAny_bind (slicePart_ pu (wpAny_bind (wpAny_pure ?_)))))
  show wpAny _ _ (match Builtin.Slice.sliceAdjust none none (-1) (n : Int) with | (lo, hi) => pure (lo, (-1 : Int), Builtin.Slice.slicePlaces lo hi (-1))) _ _ s
  rw [adjust_rev n]
  show wpAny _ _ (pure ((n : Int) - 1, (-1 : Int), Builtin.Slice.slicePlaces ((n : Int) - 1) (-1) (-1))) _ _ s
  rw [places_rev]
  exact wpAny_pure h
theorem fm_congr {α β : Type} {f g : α → Option β} : ∀ {l : List α}, (∀ x ∈ l, f x = g x) → l.filterMap f = l.filterMap g
  | [], _ => rfl
  | x :: l, h => by rw [List.filterMap_cons, List.filterMap_cons, h x List.mem_cons_self, fm_congr fun y hy => h y (List.mem_cons_of_mem _ hy)]
theorem pick_revL : ∀ (xs : List Value), ((List.range xs.length).filterMap fun (m : Nat) => xs[(((xs.length : Nat) : Int) - 1 + (m : Int) * (-1)).toNat]?) = xs.reverse := by
  intro xs
  have e : ((List.range xs.length).filterMap fun (m : Nat) => xs[(((xs.length : Nat) : Int) - 1 + (m : Int) * (-1)).toNat]?) = (List.range xs.length).filterMap fun (m : Nat) => xs.reverse[m]? := by
    refine fm_congr fun m hm => ?_
    have hm' : m < xs.length := List.mem_range.mp hm
    rw [List.getElem?_reverse hm']
    congr 1
    omega
  rw [e]
  have : ∀ (ys : List Value), (List.range ys.length).filterMap (fun m => ys[m]?) = ys := by
    intro ys
    induction ys with
    | nil => rfl
    | cons y ys ih =>
      rw [List.length_cons, List.range_succ_eq_map, List.filterMap_cons]
      simp only [List.getElem?_cons_zero, List.filterMap_map]
      rw [show ((fun m => (y :: ys)[m]?) ∘ Nat.succ) = fun m => ys[m]? from rfl, ih]
  have h := this xs.reverse
  rwa [List.length_reverse] at h
theorem pick_rev (xs : Array Value) : ((List.range xs.size).filterMap fun (m : Nat) => xs[(((xs.size : Nat) : Int) - 1 + (m : Int) * (-1)).toNat]?).toArray = xs.toList.reverse.toArray := by
  have := pick_revL xs.toList
  rw [← this]
  simp
theorem getItem_tuple_rev {t sl : Addr} {items : Array Value} {vl vu vs : Value} {Q : Value → Shared → Prop} (ht : IsTup s.heap t items) (hs : s.heap.IsSliceOf sl vl vu vs) (pl : IsPart vl none) (pu : IsPart vu none) (ps : IsPart vs (some (-1)))
    (h : Q (.ref s.heap.objs.size) { s with heap := s.heap.push { cls := .type "tuple", data := .seq items.toList.reverse.toArray } })
    (hsz : items.size ≤ sizeLine) : wpAny (model prog w) A (getItem (.ref t) (.ref sl)) Q E s := by
  have htake : sizeOk (.seq items.toList.reverse.toArray) := by
    show items.toList.reverse.toArray.size ≤ sizeLine
    simpa using hsz
  obtain ⟨os, hos, hcs, hds⟩ := id hs
  have hTs : s.TypeIs (.ref sl) "slice" := ⟨os, hos, hcs⟩
  unfold getItem
  try with_reducible refine wpAny_holding ?_
  first | refine wpAny_bind (wpAny_pure ?_) | skip
  refine wpAny_bind (wpAny_sequenceKey ht.typeIs (by decide) ?_)
  refine wpAny_bind (wpAny_callSpecial?_slot (name := Str.ofString "__getitem__") ht.typeIs PyProof.Rows.slot_tuple_getitem
    (wpAny_call_entry PyProof.Rows.slot_tuple_getitem ht.typeIs entry_tuple_getitem ?_ (args_tuple_getitem _ _)))
  show wpAny _ _ (Builtin.Tuple.tupleItemsOf (.ref t) >>= _) _ _ s
  refine wpAny_bind (tupleItemsOf_ ht ?_)
  refine wpAny_bind (wpAny_typeOf hTs ?_)
  rw [if_pos (by decide)]
  refine wpAny_bind (sliceApplied_rev hs pl pu ps ?_)
  have hno : ¬ ((((items.size : Nat) : Int) - 1 == 0 && (-1 : Int) == 1 && items.size == items.size) = true) := by
    intro q
    rw [Bool.and_eq_true, Bool.and_eq_true] at q
    exact absurd q.1.2 (by decide)
  show wpAny _ _ (if (((items.size : Nat) : Int) - 1 == 0 && (-1 : Int) == 1 && items.size == items.size) = true then _ else _) _ _ s
  rw [if_neg hno, pick_rev]
  first
    | exact wpAny_bind (m := Builtin.Tuple.tupleExact _) (wpAny_newObj_type (wpAny_pure ⟨_, rfl, wpAny_pure h⟩) htake)
    | exact wpAny_bind (m := Builtin.Tuple.tupleExact _) (wpAny_newObj_type (wpAny_bind (wpAny_pure (wpAny_pure ⟨_, rfl, wpAny_pure h⟩))) htake)
    | exact wpAny_bind (wpAny_bind (m := Builtin.Tuple.tupleExact _) (wpAny_newObj_type (wpAny_pure (wpAny_pure ⟨_, rfl, wpAny_pure h⟩)) htake))
    | exact wpAny_bind (wpAny_bind (m := Builtin.Tuple.tupleExact _) (wpAny_newObj_type (wpAny_pure ⟨_, rfl, wpAny_pure h⟩) htake))
end
end HT
namespace Sm
open PySem PySem.Spec PyProof.Rows L2
/-- t[::-1], a tuple or a list -/
def tRevX (K : PySem.W.Frag) (te : TE) : TE := fun σ H Q => te σ H fun x H1 => (∃ a xs, x = .ref a ∧ SqL K H1 a xs ∧ ∀ p, H1 p = none → Q (.ref p) (upd H1 p (.lst xs.reverse))) ∨
  ∃ a xs, x = .ref a ∧ SqT K H1 a xs ∧ ∀ p, H1 p = none → Q (.ref p) (upd H1 p (.tup xs.reverse))
theorem pe_revX {X : Cx} {e : Expr} {te : TE} {k : Nat} {p1 p2 p3 pos : Pos} (he : PE X e te) : PE X (.Subscript e (.Slice none none (some (.UnaryOp .USub (.Constant (.int 1) k p1) p2)) p3) pos) (tRevX X.K te) := by
  refine ⟨fun pins s σ H Q I h => ?_⟩
  refine Subscript_ (thn (he.run pins s σ H _ I h) fun v s1 ⟨x, H1, I1, r1, q1⟩ => ?_)
  have hst : PO X (some (.UnaryOp .USub (.Constant (.int 1) k p1) p2)) (tPart (tUn (rU fun i => .int (-i)) (tC (.int 1)))) := po_some (pe_un un_neg pe_int)
  refine wpAny_Slice (thn (po_none.run pins s1 σ H1 (fun o H2 => o = none ∧ H2 = H1) I1 ⟨rfl, rfl⟩) fun vl s2 ⟨l, H2, I2, pl, el, e2⟩ => ?_)
  subst el e2
  refine thn (po_none.run pins s2 σ H2 (fun o H3 => o = none ∧ H3 = H2) I2 ⟨rfl, rfl⟩) fun vu s3 ⟨u, H3, I3, pu, eu, e3⟩ => ?_
  subst eu e3
  refine thn (hst.run pins s3 σ H3 (fun o H4 => o = some (-1) ∧ H4 = H3) I3 ⟨1, rfl, -1, rfl, rfl, rfl⟩) fun vs s4 ⟨o, H4, I4, ps, eo, e4⟩ => ?_
  subst eo e4
  have I5 : Inv X pins σ H4 { s4 with heap := s4.heap.push { cls := .type "slice", data := .fields #[vl, vu, vs] } } := I4.kept (t' := s4.toks) fun b ob q => Heap.get?_push_of_some _ q
  show wpAny (model X.prog X.w) X.A (subscriptTail e (.Slice none none (some (.UnaryOp .USub (.Constant (.int 1) k p1) p2)) p3) v (.ref s4.heap.objs.size)) (EP X pins σ Q) X.xe { s4 with heap := s4.heap.push { cls := .type "slice", data := .fields #[vl, vu, vs] } }
  rcases q1 with ⟨a, xs, ex, hx, q⟩ | ⟨a, xs, ex, hx, q⟩
  · subst ex
    cases r1
    obtain ⟨its, r, ht, hz⟩ := I5.list hx
    have hlen := r.length
    refine tail_any (ops := [.ref a, .ref s4.heap.objs.size]) ht.isList.typeIs (PySem.slot_list_getitem.lookup) ?_ (by with_unfolding_all rfl)
    refine wpAny_getItem_list_slice ht.isList (Heap.IsSliceOf.new _ vl vu vs) pl pu ps (by decide) ?_ (by rw [List.size_toArray]; omega)
    rw [PySem.W.krv_pick]
    refine ⟨.ref _, _, I5.laid (t' := s4.toks) (o := .lst xs.reverse) (fun b ob q => Heap.get?_push_of_some _ q) (Nat.le_refl _) ?_, rfl, q _ (I5.hok.fresh (Nat.le_refl _))⟩
    exact ⟨by rw [List.length_reverse]; exact hz, _, 0, r.reverse, Heap.get?_push_size _ rfl⟩
  · subst ex
    cases r1
    obtain ⟨its, r, ht, hz⟩ := I5.tuple hx
    have hlen := r.length
    refine tail_any (ops := [.ref a, .ref s4.heap.objs.size]) ht.typeIs (PyProof.Rows.slot_tuple_getitem.lookup) ?_ (by with_unfolding_all rfl)
    refine HT.getItem_tuple_rev ht (Heap.IsSliceOf.new _ vl vu vs) pl pu ps ?_ (by rw [List.size_toArray]; omega)
    refine ⟨.ref _, _, I5.laid (t' := s4.toks) (o := .tup xs.reverse) (fun b ob q => Heap.get?_push_of_some _ q) (Nat.le_refl _) ?_, rfl, q _ (I5.hok.fresh (Nat.le_refl _))⟩
    exact ⟨by rw [List.length_reverse]; exact hz, _, r.reverse, IsTup.new _ _⟩
end Sm

/-! The Sim layer, part 10: subscripts, slices, stores, built-ins, methods of lists. -/
namespace Sm
open PySem L2

/-- what a sequence holds -/
def seqOf (st : Sto) : Val → Option (List Val)
  | .tup xs => some xs
  | .kt xs => some xs
  | .loc l => match st[l]? with
    | some (.lst xs) => some xs
    | _ => none
  | .scr ns => some (ns.map Val.int)
  | _ => none
section
variable {P : Program} {w : World} {K : PySem.W.Frag} {mg : Str → Option Value} {base : Heap} {S : Sc}
variable {e a b c : Expr} {es : List Expr} {ma mb mc : Ex} {aa ab : Ax} {pos pos' : Pos}
variable {ρ ρ' : List Addr} {H H' : Hp} {W : WX} {σ : L2.St} {st : Sto} {xi : Option XI} {env : Env} {Q : VK}
theorem seqOf_ok {x : Val} {xs : List Val} {v : V} (rs : RS K mg ρ H st) (h : seqOf st x = some xs) (r : RV K mg ρ H x v) : ∃ a vs, v = .ref a ∧ (SqL K H a vs ∨ SqT K H a vs) ∧ RVs K mg ρ H xs vs := by
  cases x with
  | tup ys => cases h; obtain ⟨a, vs, h1, h2, h3⟩ := r.seqT (.inl rfl); exact ⟨a, vs, h1, .inr h2, h3⟩
  | kt ys => cases h; obtain ⟨a, vs, h1, h2, h3⟩ := r.seqT (.inr rfl); exact ⟨a, vs, h1, .inr h2, h3⟩
  | loc l =>
    rw [RV] at r
    obtain ⟨a, rfl, ha⟩ := r
    unfold seqOf at h
    cases q : st[l]? with
    | none => simp only [q] at h; cases h
    | some ob =>
      cases ob with
      | lst ys =>
        simp only [q] at h
        cases h
        obtain ⟨vs, h1, h2⟩ := rs.at q ha
        exact ⟨a, vs, rfl, .inl (SqL.of h1), h2⟩
      | _ => simp only [q] at h; cases h
  | scr ns =>
    cases h
    rw [RV] at r
    obtain ⟨a, rfl, ha⟩ := r
    exact ⟨a, _, rfl, .inl ha.sq, RVs.ints⟩
  | _ => cases h
/-- a list only -/
def lstOf (st : Sto) : Val → Option (List Val)
  | .loc l => match st[l]? with
    | some (.lst xs) => some xs
    | _ => none
  | .scr ns => some (ns.map Val.int)
  | _ => none
def tupOf : Val → Option (List Val)
  | .tup xs => some xs
  | .kt xs => some xs
  | _ => none
theorem tupOf_ok {x : Val} {xs : List Val} {v : V} (h : tupOf x = some xs) (r : RV K mg ρ H x v) : ∃ a vs, v = .ref a ∧ SqT K H a vs ∧ RVs K mg ρ H xs vs := by
  cases x with
  | tup ys => cases h; exact r.seqT (.inl rfl)
  | kt ys => cases h; exact r.seqT (.inr rfl)
  | _ => cases h
theorem lstOf_ok {x : Val} {xs : List Val} {v : V} (rs : RS K mg ρ H st) (h : lstOf st x = some xs) (r : RV K mg ρ H x v) : ∃ a vs, v = .ref a ∧ SqL K H a vs ∧ RVs K mg ρ H xs vs := by
  cases x with
  | loc l =>
    rw [RV] at r
    obtain ⟨a, rfl, ha⟩ := r
    unfold lstOf at h
    cases q : st[l]? with
    | none => simp only [q] at h; cases h
    | some ob =>
      cases ob with
      | lst ys =>
        simp only [q] at h
        cases h
        obtain ⟨vs, h1, h2⟩ := rs.at q ha
        exact ⟨a, vs, rfl, SqL.of h1, h2⟩
      | _ => simp only [q] at h; cases h
  | scr ns =>
    cases h
    rw [RV] at r
    obtain ⟨a, rfl, ha⟩ := r
    exact ⟨a, _, rfl, ha.sq, RVs.ints⟩
  | _ => cases h
theorem RVs.at {xs : List Val} {vs : List V} (h : RVs K mg ρ H xs vs) {i : Nat} {x : Val} (hi : xs[i]? = some x) : ∃ v, vs[i]? = some v ∧ RV K mg ρ H x v := by
  induction xs generalizing vs i with
  | nil => cases hi
  | cons y ys ih =>
    rw [RVs] at h
    obtain ⟨v, r, rfl, h1, h2⟩ := h
    cases i with
    | zero => cases hi; exact ⟨v, rfl, h1⟩
    | succ i => exact ih h2 hi
/-! ### o[i] -/
def IxOk (P : Program) (w : World) (K : PySem.W.Frag) (mg : Str → Option Value) (base : Heap) (S : Sc) (o : Val → Val → Sto → R Val) : Prop := ∀ X, XOk P w K mg base S X → ∃ r : R2, IxR X r ∧
  ∀ (ρ : List Addr) (H : Hp) (st : Sto) (x y : Val) (v u : V) (W : WX) (σ : L2.St) (Q : VK), RS K mg ρ H st → RV K mg ρ H x v → RV K mg ρ H y u → PostE K mg W ρ H σ Q (o x y st) → r v u H Q
theorem simE_ix {o : Val → Val → Sto → R Val} (ho : IxOk P w K mg base S o) (ha : SimE P w K mg base S a ma) (hb : SimE P w K mg base S b mb) (hs : PlainIx b) : SimE P w K mg base S (.Subscript a b pos) (eOp o ma mb) := fun X W hX tk => by
  obtain ⟨r, h1, h2⟩ := ho X hX
  exact PE.imp (pe_ix h1 (ha X W hX tk) (hb X W hX tk) hs) fun σ H Q ⟨ρ, st, env, rs, re, h⟩ => ⟨ρ, st, env, rs, re, Post.bind h fun ρ1 H1 st1 x v _ e1 rs1 rv p1 => ⟨ρ1, st1, env, rs1, re.mono e1, Post.bind p1 fun ρ2 H2 st2 y u _ e2 rs2 ru p2 =>
    h2 ρ2 H2 st2 x y v u W σ Q rs2 (rv.mono e2) ru p2⟩⟩
def oIx : Val → Val → Sto → R Val := fun x y st => match seqOf st x, y with
  | some xs, .int i => match atI xs i with
    | some z => .ok z st
    | none => .stuck
  | _, _ => .stuck
theorem ok_ix : IxOk P w K mg base S oIx := fun X hX => by
  have eK := hX.K
  subst eK
  refine ⟨_, ix_list.or ix_tup, fun ρ H st x y v u W σ Q rs rv ru p => ?_⟩
  unfold oIx at p
  split at p
  · rename_i xs i hx
    split at p
    · rename_i z hz
      obtain ⟨a, vs, rfl, h1, h2⟩ := seqOf_ok rs hx rv
      rw [RV] at ru
      have hz' : ∃ u, atI vs i = some u ∧ RV X.K mg ρ H z u := by
        unfold atI at hz ⊢
        rw [← h2.length] at hz
        cases q : ixN vs.length i with
        | none => rw [q] at hz; cases hz
        | some j => rw [q] at hz; exact h2.at hz
      obtain ⟨u', h3, h4⟩ := hz'
      rcases h1 with h1 | h1
      · exact .inl ⟨a, vs, i, u', rfl, ru, h1, h3, p ρ H _ .refl rs h4⟩
      · exact .inr ⟨a, vs, i, u', rfl, ru, h1, h3, p ρ H _ .refl rs h4⟩
    · exact p.elim
  · exact p.elim
/-! ### o[lo:hi] -/
abbrev Ox := Env → Sto → R (Option Int)
def oNoP : Ox := fun _ st => .ok none st
def oPart (a : Ex) : Ox := fun env st => (a env st).bind fun x st1 => match x with
  | .int i => .ok (some i) st1
  | _ => .stuck
def SimO (P : Program) (w : World) (K : PySem.W.Frag) (mg : Str → Option Value) (base : Heap) (S : Sc) (e : Option Expr) (m : Ox) : Prop := ∀ X W, XOk P w K mg base S X → Takes X W → PO X e (fun σ H Q => ∃ ρ st env, RS K mg ρ H st ∧ RE K mg ρ H S.xi env σ ∧
  Post K mg (fun _ _ a b => a = b) W ρ H σ Q (m env st))
theorem PO.imp {X : Cx} {e : Option Expr} {t t' : TO} (h : PO X e t) (f : ∀ σ H Q, t' σ H Q → t σ H Q) : PO X e t' := ⟨fun pins s σ H Q I q => h.run pins s σ H Q I (f _ _ _ q)⟩
theorem simO_none : SimO P w K mg base S none oNoP := fun X W hX tk => PO.imp po_none fun σ H Q ⟨ρ, st, env, rs, re, h⟩ => h ρ H none .refl rs rfl
theorem simO_some (ha : SimE P w K mg base S a ma) : SimO P w K mg base S (some a) (oPart ma) := fun X W hX tk => PO.imp (po_some (ha X W hX tk)) fun σ H Q ⟨ρ, st, env, rs, re, h⟩ =>
  ⟨ρ, st, env, rs, re, Post.bind h fun ρ1 H1 st1 x v _ e1 rs1 rv p1 => by
    cases x with
    | int i =>
      rw [RV] at rv
      exact ⟨i, rv, p1 ρ1 H1 _ .refl rs1 rfl⟩
    | _ => exact p1.elim⟩
def cutL {α : Type} (xs : List α) (lo hi : Option Int) : List α := (xs.drop (HT.sIx xs.length 0 lo)).take (HT.sIx xs.length xs.length hi - HT.sIx xs.length 0 lo)
def eSl (o : Ex) (lo hi : Ox) : Ex := fun env st => (o env st).bind fun x st1 => (lo env st1).bind fun l st2 => (hi env st2).bind fun h st3 => match tupOf x with
  | some xs => .ok (if HT.sIx xs.length 0 l = 0 ∧ HT.sIx xs.length xs.length h = xs.length then x else .tup (cutL xs l h)) st3
  | none => match lstOf st3 x with
    | some xs => .ok (.loc st3.length) (st3 ++ [.lst (cutL xs l h)])
    | none => .stuck
theorem SlR.or' {X : Cx} {r r' : V → Option Int → Option Int → Hp → VK → Prop} (h : SlR X r) (h' : SlR X r') : SlR X (fun x lo hi H Q => r x lo hi H Q ∨ r' x lo hi H Q) := L2.SlR.or h h'
theorem RVs.cut {xs : List Val} {vs : List V} (h : RVs K mg ρ H xs vs) (lo hi : Option Int) : RVs K mg ρ H (cutL xs lo hi) (cutV vs lo hi) := by
  unfold cutL cutV
  rw [h.length]
  exact (h.drop _).take _
theorem simE_sl {lo hi : Option Expr} {ml mh : Ox} {p2 : Pos} (ha : SimE P w K mg base S a ma) (hl : SimO P w K mg base S lo ml) (hh : SimO P w K mg base S hi mh) : SimE P w K mg base S (.Subscript a (.Slice lo hi none p2) pos) (eSl ma ml mh) := fun X W hX tk => by
  have eK := hX.K
  subst eK
  refine PE.imp (pe_slice (sl_tupA.or sl_list) (ha X W hX tk) (hl X W hX tk) (hh X W hX tk)) fun σ H Q ⟨ρ, st, env, rs, re, h⟩ => ⟨ρ, st, env, rs, re, Post.bind h fun ρ1 H1 st1 x v _ e1 rs1 rv p1 => ⟨ρ1, st1, env, rs1, re.mono e1,
    Post.bind p1 fun ρ2 H2 st2 l l' _ e2 rs2 el p2 => ⟨ρ2, st2, env, rs2, (re.mono e1).mono e2, Post.bind p2 fun ρ3 H3 st3 h h' _ e3 rs3 eh p3 => ?_⟩⟩⟩
  subst el eh
  have rv3 := (rv.mono e2).mono e3
  cases q : tupOf x with
  | some xs =>
    simp only [q] at p3
    obtain ⟨a, vs, rfl, h1, h2⟩ := tupOf_ok q rv3
    refine .inl ⟨a, vs, rfl, h1, fun hc => ?_, fun hc p hp => ?_⟩
    · rw [h2.length] at hc
      rw [if_pos hc] at p3
      exact p3 ρ3 H3 _ .refl rs3 rv3
    · rw [h2.length] at hc
      rw [if_neg hc] at p3
      obtain ⟨f1, f2, f3⟩ := newTup rs3 hp (h2.cut l h)
      exact p3 ρ3 _ _ f1 f2 f3
  | none =>
    simp only [q] at p3
    cases q2 : lstOf st3 x with
    | some xs =>
      simp only [q2] at p3
      obtain ⟨a, vs, rfl, h1, h2⟩ := lstOf_ok rs3 q2 rv3
      refine .inr ⟨a, vs, rfl, h1, fun p hp => ?_⟩
      obtain ⟨f1, f2, f3⟩ := newLst rs3 hp (h2.cut l h)
      exact p3 _ _ _ f1 f2 f3
    | none => simp only [q2] at p3; exact p3.elim
def eRev (o : Ex) : Ex := fun env st => (o env st).bind fun x st1 => match tupOf x with
  | some xs => .ok (.tup xs.reverse) st1
  | none => match lstOf st1 x with
    | some xs => .ok (.loc st1.length) (st1 ++ [.lst xs.reverse])
    | none => .stuck
theorem simE_rev {k : Nat} {p1 p2 p3 : Pos} (ha : SimE P w K mg base S a ma) : SimE P w K mg base S (.Subscript a (.Slice none none (some (.UnaryOp .USub (.Constant (.int 1) k p1) p2)) p3) pos) (eRev ma) := fun X W hX tk => by
  have eK := hX.K
  subst eK
  refine PE.imp (pe_revX (ha X W hX tk)) fun σ H Q ⟨ρ, st, env, rs, re, h⟩ => ⟨ρ, st, env, rs, re, Post.bind h fun ρ1 H1 st1 x v _ e1 rs1 rv p1 => ?_⟩
  cases q : tupOf x with
  | some xs =>
    simp only [q] at p1
    obtain ⟨a, vs, rfl, h1, h2⟩ := tupOf_ok q rv
    refine .inr ⟨a, vs, rfl, h1, fun p hp => ?_⟩
    obtain ⟨f1, f2, f3⟩ := newTup rs1 hp h2.reverse
    exact p1 _ _ _ f1 f2 f3
  | none =>
    simp only [q] at p1
    cases q2 : lstOf st1 x with
    | some xs =>
      simp only [q2] at p1
      obtain ⟨a, vs, rfl, h1, h2⟩ := lstOf_ok rs1 q2 rv
      refine .inl ⟨a, vs, rfl, h1, fun p hp => ?_⟩
      obtain ⟨f1, f2, f3⟩ := newLst rs1 hp h2.reverse
      exact p1 _ _ _ f1 f2 f3
    | none => simp only [q2] at p1; exact p1.elim
/-! ### o[i] = v -/
theorem simS_sub {o i : Expr} {mo mi : Ex} {s : Val → Val → Val → Sto → R Unit} (hk : SetOk P w K mg base S s) (ha : SimE P w K mg base S a ma) (ho : SimE P w K mg base S o mo) (hi : SimE P w K mg base S i mi) (hs : ∀ env, swapsWithSole [.Subscript o i pos'] a pos.line env = pure false)
    (hw : ∀ env : PySem.Env, env.scope = S.sc → swappedStores [.Subscript o i pos'] a env = pure none) (h1 : ∀ env, (assignEach [.Subscript o i pos'] env).map (·.2) = [assign (.Subscript o i pos') env])
    (hA : ∀ env v, assign (.Subscript o i pos') env v = (do
      let ov ← holding [v] (eval o env)
      let iv ← holding [v, ov] (eval i env)
      standAt pos'
      holding [v, ov, iv] (setItem ov iv v)
      release [v, ov, iv] [])) : SimS P w K mg base S (.Assign [.Subscript o i pos'] a pos) (sSub s mo mi ma) := fun X W hX tk => by
  obtain ⟨r, k1, k2⟩ := hk X hX
  refine PS.imp (ps_asg (ha X W hX tk) (pg_sub (ho X W hX tk) (hi X W hX tk) k1 (hA X.env)) (hs _) (hw _ hX.scope.symm) (h1 _)) fun D σ H ⟨ρ, st, env, rs, re, h⟩ => ⟨ρ, st, env, rs, re, PostS.bind h re fun ρ1 H1 st1 x v _ e1 rs1 rv p1 =>
    ⟨ρ1, st1, env, rs1, re.mono e1, PostS.bind p1 (re.mono e1) fun ρ2 H2 st2 y u _ e2 rs2 ru p2 => ⟨ρ2, st2, env, rs2, (re.mono e1).mono e2, PostS.bind p2 ((re.mono e1).mono e2) fun ρ3 H3 st3 z t _ e3 rs3 rz p3 => ?_⟩⟩⟩
  have re3 := ((re.mono e1).mono e2).mono e3
  refine k2 ρ3 H3 st3 y z x u t v W σ (fun _ H4 => D.nx σ H4) rs3 (ru.mono e3) rz ((rv.mono e2).mono e3) ?_
  exact PostS.bind (rel := fun _ _ _ _ => True) p3 re3 fun ρ4 H4 st4 x4 _ _ e4 rs4 _ p4 => p4 ρ4 H4 σ .refl rs4 (re3.mono e4)
def kSetL : Val → Val → Val → Sto → R Unit := fun x y z st => match x, y with
  | .loc l, .int i => match st[l]? with
    | some (.lst xs) => match ixN xs.length i with
      | some j => .ok () (st.set l (.lst (xs.set j z)))
      | none => .stuck
    | _ => .stuck
  | _, _ => .stuck
/-- a list that is written -/
theorem putLst {l : Nat} {a : Addr} {xs : List Val} {vs : List V} (rs : RS K mg ρ H st) (ha : ρ[l]? = some a) {ob : Ob} (ho : st[l]? = some ob) (rv : RVs K mg ρ H xs vs) : Ext ρ H ρ (upd H a (.lst vs)) ∧ RS K mg ρ (upd H a (.lst vs)) (st.set l (.lst xs)) :=
  have ex : Ext ρ H ρ (upd H a (.lst vs)) := rs.ext ha
  ⟨ex, rs.set ha ⟨vs, upd_same, rv.mono ex⟩⟩
theorem RVs.setAt {xs : List Val} {vs : List V} (h : RVs K mg ρ H xs vs) {x : Val} {v : V} (r : RV K mg ρ H x v) (i : Nat) : RVs K mg ρ H (xs.set i x) (vs.set i v) := by
  induction xs generalizing vs i with
  | nil => rw [RVs] at h; subst h; exact .nil
  | cons y ys ih =>
    rw [RVs] at h
    obtain ⟨u, r', rfl, h1, h2⟩ := h
    cases i with
    | zero => exact .cons r h2
    | succ i => exact .cons h1 (ih h2 i)
theorem ok_setL : SetOk P w K mg base S kSetL := fun X hX => ⟨_, set_list, fun ρ H st x y z a b c W σ Q rs ra rb rc p => by
  cases x with
  | loc l =>
    cases y with
    | int i =>
      cases q : st[l]? with
      | none => simp only [kSetL, q] at p; exact p.elim
      | some ob =>
        cases ob with
        | lst xs =>
          simp only [kSetL, q] at p
          cases hj : ixN xs.length i with
          | none => simp only [hj] at p; exact p.elim
          | some j =>
            simp only [hj] at p
            rw [RV] at ra
            rw [RV] at rb
            obtain ⟨p', rfl, hp⟩ := ra
            obtain ⟨vs, q1, q2⟩ := rs.at q hp
            obtain ⟨f1, f2⟩ := putLst rs hp q (q2.setAt rc j)
            exact ⟨p', vs, i, j, rfl, rb, q1, by rw [q2.length]; exact hj, p ρ _ () f1 f2 trivial⟩
        | _ => simp only [kSetL, q] at p; exact p.elim
    | _ => exact p.elim
  | _ => exact p.elim⟩
end
end Sm

/-! The Sim layer, part 11: built-ins, methods of lists, in. -/
namespace Sm
open PySem L2
section
variable {P : Program} {w : World} {K : PySem.W.Frag} {mg : Str → Option Value} {base : Heap} {S : Sc}
variable {e a b c : Expr} {es : List Expr} {ma mb mc : Ex} {aa ab : Ax} {pos pos' : Pos}
variable {ρ ρ' : List Addr} {H H' : Hp} {W : WX} {σ : L2.St} {st : Sto} {xi : Option XI} {env : Env} {Q : VK}
theorem RVs.one {x : Val} {vs : List V} (h : RVs K mg ρ H [x] vs) : ∃ v, vs = [v] ∧ RV K mg ρ H x v := by
  rw [RVs] at h
  obtain ⟨v, r, rfl, h1, h2⟩ := h
  rw [RVs] at h2
  subst h2
  exact ⟨v, rfl, h1⟩
theorem RVs.two {x y : Val} {vs : List V} (h : RVs K mg ρ H [x, y] vs) : ∃ v u, vs = [v, u] ∧ RV K mg ρ H x v ∧ RV K mg ρ H y u := by
  rw [RVs] at h
  obtain ⟨v, r, rfl, h1, h2⟩ := h
  obtain ⟨u, rfl, h3⟩ := h2.one
  exact ⟨v, u, rfl, h1, h3⟩
theorem RVs.zero {vs : List V} (h : RVs K mg ρ H [] vs) : vs = [] := by rw [RVs] at h; exact h
/-- of one value -/
def one' (o : Val → Sto → R Val) : List Val → Sto → R Val
  | [x], st => o x st
  | _, _ => .stuck
def two' (o : Val → Val → Sto → R Val) : List Val → Sto → R Val
  | [x, y], st => o x y st
  | _, _ => .stuck
theorem ClOk.one {f : Value} {o : Val → Sto → R Val} (h : ∀ X, XOk P w K mg base S X → ∃ r : List V → Hp → VK → Prop, CallR X f r ∧
    ∀ (ρ : List Addr) (H : Hp) (st : Sto) (x : Val) (v : V) (W : WX) (σ : L2.St) (Q : VK), RS K mg ρ H st → RV K mg ρ H x v → PostE K mg W ρ H σ Q (o x st) → r [v] H Q) : ClOk P w K mg base S f (one' o) := fun X hX => by
  obtain ⟨r, h1, h2⟩ := h X hX
  refine ⟨r, h1, fun ρ H st xs vs W σ Q rs rv p => ?_⟩
  match xs, rv, p with
  | [x], rv, p => obtain ⟨v, rfl, r⟩ := rv.one; exact h2 ρ H st x v W σ Q rs r p
  | [], _, p => exact p.elim
  | _ :: _ :: _, _, p => exact p.elim
theorem ClOk.two {f : Value} {o : Val → Val → Sto → R Val} (h : ∀ X, XOk P w K mg base S X → ∃ r : List V → Hp → VK → Prop, CallR X f r ∧
    ∀ (ρ : List Addr) (H : Hp) (st : Sto) (x y : Val) (v u : V) (W : WX) (σ : L2.St) (Q : VK), RS K mg ρ H st → RV K mg ρ H x v → RV K mg ρ H y u → PostE K mg W ρ H σ Q (o x y st) → r [v, u] H Q) : ClOk P w K mg base S f (two' o) := fun X hX => by
  obtain ⟨r, h1, h2⟩ := h X hX
  refine ⟨r, h1, fun ρ H st xs vs W σ Q rs rv p => ?_⟩
  match xs, rv, p with
  | [x, y], rv, p => obtain ⟨v, u, rfl, r1, r2⟩ := rv.two; exact h2 ρ H st x y v u W σ Q rs r1 r2 p
  | [], _, p => exact p.elim
  | [_], _, p => exact p.elim
  | _ :: _ :: _ :: _, _, p => exact p.elim
def oLen : Val → Sto → R Val := fun x st => match seqOf st x with
  | some xs => .ok (.int xs.length) st
  | none => match x with
    | .str z => if z.length ≤ 16777216 then .ok (.int z.length) st else .stuck
    | _ => .stuck
theorem ok_len : ClOk P w K mg base S (.builtin "len") (one' oLen) := .one fun X hX => by
  have eK := hX.K
  subst eK
  refine ⟨_, call_len, fun ρ H st x v W σ Q rs rv p => ?_⟩
  unfold oLen at p
  cases q : seqOf st x with
  | some xs =>
    simp only [q] at p
    obtain ⟨a, vs, rfl, h1, h2⟩ := seqOf_ok rs q rv
    refine ⟨.ref a, vs.length, rfl, ?_, by rw [h2.length]; exact p ρ H _ .refl rs rvi⟩
    rcases h1 with h1 | h1
    · exact .inl ⟨vs, h1, rfl⟩
    · exact .inr ⟨vs, h1, rfl⟩
  | none =>
    simp only [q] at p
    cases x with
    | str z =>
      simp only at p
      split at p
      · rename_i hz
        rw [RV] at rv
        exact ⟨v, z.length, rfl, by rw [rv]; exact ⟨line_le hz, rfl⟩, p ρ H _ .refl rs rvi⟩
      · exact p.elim
    | _ => exact p.elim
def oAbs : Val → Sto → R Val
  | .int i, st => .ok (.int (if i < 0 then -i else i)) st
  | _, _ => .stuck
theorem ok_abs : ClOk P w K mg base S (.builtin "abs") (one' oAbs) := .one fun X hX => ⟨_, call_abs, fun ρ H st x v W σ Q rs rv p => by
  cases x with
  | int i => rw [RV] at rv; exact ⟨i, by rw [rv], p ρ H _ .refl rs rvi⟩
  | _ => exact p.elim⟩
def oInt1 : Val → Sto → R Val
  | .int i, st => .ok (.int i) st
  | .bl b, st => .ok (.int (if b then 1 else 0)) st
  | _, _ => .stuck
theorem ok_int1 : ClOk P w K mg base S (.type "int") (one' oInt1) := .one fun X hX => ⟨_, call_int1, fun ρ H st x v W σ Q rs rv p => by
  cases x with
  | int i => rw [RV] at rv; exact .inl ⟨i, by rw [rv], p ρ H _ .refl rs rvi⟩
  | bl i => rw [RV] at rv; exact .inr ⟨i, by rw [rv], p ρ H _ .refl rs rvi⟩
  | _ => exact p.elim⟩
def oMax2 : Val → Val → Sto → R Val
  | .int i, .int j, st => .ok (.int (if j > i then j else i)) st
  | _, _, _ => .stuck
def oMin2 : Val → Val → Sto → R Val
  | .int i, .int j, st => .ok (.int (if j < i then j else i)) st
  | _, _, _ => .stuck
theorem ok_max2 (hc : S.calm = true) : ClOk P w K mg base S (.builtin "max") (two' oMax2) := .two fun X hX => ⟨_, call_max2 (by rw [← hX.calm]; exact hc), fun ρ H st x y v u W σ Q rs rv ru p => by
  cases x with
  | int i =>
    cases y with
    | int j => rw [RV] at rv ru; exact ⟨i, j, by rw [rv, ru], p ρ H _ .refl rs rvi⟩
    | _ => exact p.elim
  | _ => exact p.elim⟩
theorem ok_min2 (hc : S.calm = true) : ClOk P w K mg base S (.builtin "min") (two' oMin2) := .two fun X hX => ⟨_, call_min2 (by rw [← hX.calm]; exact hc), fun ρ H st x y v u W σ Q rs rv ru p => by
  cases x with
  | int i =>
    cases y with
    | int j => rw [RV] at rv ru; exact ⟨i, j, by rw [rv, ru], p ρ H _ .refl rs rvi⟩
    | _ => exact p.elim
  | _ => exact p.elim⟩
def oTuple : Val → Sto → R Val := fun x st => match tupOf x with
  | some _ => .ok x st
  | none => match lstOf st x with
    | some xs => .ok (.tup xs) st
    | none => .stuck
theorem ok_tuple : ClOk P w K mg base S (.type "tuple") (one' oTuple) := .one fun X hX => by
  have eK := hX.K
  subst eK
  refine ⟨_, call_tuple_of, fun ρ H st x v W σ Q rs rv p => ?_⟩
  unfold oTuple at p
  cases q : tupOf x with
  | some xs =>
    simp only [q] at p
    obtain ⟨a, vs, rfl, h1, h2⟩ := tupOf_ok q rv
    exact ⟨a, vs, rfl, .inr ⟨h1, p ρ H _ .refl rs rv⟩⟩
  | none =>
    simp only [q] at p
    cases q2 : lstOf st x with
    | some xs =>
      simp only [q2] at p
      obtain ⟨a, vs, rfl, h1, h2⟩ := lstOf_ok rs q2 rv
      refine ⟨a, vs, rfl, .inl ⟨h1, fun l hl => ?_⟩⟩
      obtain ⟨f1, f2, f3⟩ := newTup rs hl h2
      exact p _ _ _ f1 f2 f3
    | none => simp only [q2] at p; exact p.elim
def oList : Val → Sto → R Val := fun x st => match seqOf st x with
  | some xs => .ok (.loc st.length) (st ++ [.lst xs])
  | none => .stuck
theorem ok_list : ClOk P w K mg base S (.type "list") (one' oList) := .one fun X hX => by
  have eK := hX.K
  subst eK
  refine ⟨_, call_list_of, fun ρ H st x v W σ Q rs rv p => ?_⟩
  unfold oList at p
  cases q : seqOf st x with
  | some xs =>
    simp only [q] at p
    obtain ⟨a, vs, rfl, h1, h2⟩ := seqOf_ok rs q rv
    refine ⟨a, vs, rfl, h1, fun l hl => ?_⟩
    obtain ⟨f1, f2, f3⟩ := newLst rs hl h2
    exact p _ _ _ f1 f2 f3
  | none => simp only [q] at p; exact p.elim
/-! ### repr -/
def oRepr : Val → Sto → R Val := fun x st => match pd st deep x with
  | some d => if d.showable && !d.hasDict && decide (d.depth ≤ 60) && decide (d.shown.length ≤ 16777216) then .ok (.str d.shown) st else .stuck
  | none => .stuck
def rRepD (K : PySem.W.Frag) : List V → Hp → VK → Prop := fun vs H Q => ∃ v d, vs = [v] ∧ Dp K H v d ∧ d.showable = true ∧ d.hasDict = false ∧ d.depth ≤ 60 ∧ d.shown.length ≤ 16777216 ∧ Q (.str d.shown) H
theorem call_repD {X : Cx} (hg : X.A.guards = some []) (hu : X.A.units + 64 < cLine) : CallR X (.builtin "repr") (rRepD X.K) := by
  intro pins s σ H xs us Q I r h
  obtain ⟨v, d, rfl, hd, h1, h2, h3, h4, q⟩ := h
  obtain ⟨u, rfl, r1⟩ := vals1 r
  obtain ⟨as, hr⟩ := Dp.reads I d v u hd r1
  have hz : d.shown.length ≤ sizeLine := line_le h4
  have fin : ∀ (t : Tok) (h' : Heap) (tk : Nat), (∀ b o, s.heap.get? b = some o → h'.get? b = some o) → EP X pins σ Q (.str d.shown t) { s with heap := h', toks := tk } := fun t h' tk hk => ⟨.str d.shown, H, I.kept hk, ⟨t, rfl⟩, q⟩
  cases hd with
  | non =>
    cases r1
    simp only [PyData.shown] at fin
    exact PySem.P.repr_of_none (fin _ _ _ fun _ _ e => e)
  | bl b =>
    cases r1
    simp only [PyData.shown] at fin
    exact PySem.P.repr_of_bool (fin _ _ _ fun _ _ e => e)
  | int i =>
    obtain ⟨t, rfl⟩ := r1
    simp only [PyData.shown] at fin
    exact PySem.P.repr_of_int (by simpa [PyData.showable] using h1) (fin _ _ _ fun _ _ e => e)
  | str x =>
    obtain ⟨t, rfl⟩ := r1
    simp only [PyData.shown] at fin hz
    exact PySem.P.repr_of_str (fin _ _ _ fun _ _ e => e) hz
  | lst a b =>
    cases r1
    exact repr_of_reads' hr h1 (PyData.noDict_hsm h2) hg (by omega) (fun _ _ e => e) (fun h' u tk hk => fin u h' tk hk) hz
  | tup a b =>
    cases r1
    exact repr_of_reads' hr h1 (PyData.noDict_hsm h2) hg (by omega) (fun _ _ e => e) (fun h' u tk hk => fin u h' tk hk) hz
theorem ok_repr (hc : S.calm = true) : ClOk P w K mg base S (.builtin "repr") (one' oRepr) := .one fun X hX => by
  have eK := hX.K
  subst eK
  refine ⟨_, call_repD hX.gd (by have := (hX.room hc).un; omega), fun ρ H st x v W σ Q rs rv p => ?_⟩
  unfold oRepr at p
  split at p
  · rename_i d hd
    split at p
    · rename_i hh
      simp only [Bool.and_eq_true, Bool.not_eq_true', decide_eq_true_eq] at hh
      exact ⟨v, d, rfl, dp_of rs _ _ _ _ hd rv, hh.1.1.1, hh.1.1.2, hh.1.2, hh.2, p ρ H _ .refl rs (by rw [RV])⟩
    · exact p.elim
  · exact p.elim
/-! ### in a list -/
def oIn (neg : Bool) : Val → Val → Sto → R Val := fun x y st => match pd st deep x, pd st deep y with
  | some d, some (.list ds) => if SeqAt.shaped d && SeqAt.shaped (.list ds) then .ok (.bl (if neg then !(ds.any fun z => PyData.eqv z d) else ds.any fun z => PyData.eqv z d)) st else .stuck
  | _, _ => .stuck
theorem ok_in (hc : S.calm = true) : OpOk P w K mg base S (compareOp .In) (oIn false) := fun X hX => by
  have eK := hX.K
  subst eK
  refine ⟨_, op_inD (by have := (hX.room hc).un; omega), fun ρ H st x y v u W σ Q rs rv ru p => ?_⟩
  unfold oIn at p
  split at p
  · rename_i d ds hd he
    split at p
    · rename_i hs
      obtain ⟨s1, s2⟩ := Bool.and_eq_true_iff.mp hs
      exact ⟨d, ds, dp_of rs _ _ _ _ hd rv, dp_of rs _ _ _ _ he ru, s1, s2, p ρ H _ .refl rs rvb⟩
    · exact p.elim
  · exact p.elim
theorem ok_notin (hc : S.calm = true) : OpOk P w K mg base S (compareOp .NotIn) (oIn true) := fun X hX => by
  have eK := hX.K
  subst eK
  refine ⟨_, op_notInD (by have := (hX.room hc).un; omega), fun ρ H st x y v u W σ Q rs rv ru p => ?_⟩
  unfold oIn at p
  split at p
  · rename_i d ds hd he
    split at p
    · rename_i hs
      obtain ⟨s1, s2⟩ := Bool.and_eq_true_iff.mp hs
      exact ⟨d, ds, dp_of rs _ _ _ _ hd rv, dp_of rs _ _ _ _ he ru, s1, s2, p ρ H _ .refl rs rvb⟩
    · exact p.elim
  · exact p.elim
/-! ### products -/
def oMul : Val → Val → Sto → R Val
  | .int i, .int j, st => if (Builtin.Int.intBits i : Int) + (Builtin.Int.intBits j : Int) ≤ 134217728 then .ok (.int (i * j)) st else .stuck
  | x, .int k, st => match tupOf x with
    | some xs => if xs ≠ [] ∧ 2 ≤ k ∧ k ≤ 1000 ∧ xs.length ≤ 1000 then .ok (.tup (List.replicate k.toNat xs).flatten) st else .stuck
    | none => .stuck
  | _, _, _ => .stuck
theorem RVs.rep {xs : List Val} {vs : List V} (h : RVs K mg ρ H xs vs) : ∀ k : Nat, RVs K mg ρ H (List.replicate k xs).flatten (List.replicate k vs).flatten
  | 0 => .nil
  | k + 1 => by
    rw [List.replicate_succ, List.replicate_succ, List.flatten_cons, List.flatten_cons]
    exact h.append (RVs.rep h k)
/-! ### classes of built-in kinds -/
def tyName : Val → Sto → Option String
  | .non, _ => some "NoneType"
  | .bl _, _ => some "bool"
  | .int _, _ => some "int"
  | .str _, _ => some "str"
  | .tup _, _ => some "tuple"
  | .kt _, _ => some "tuple"
  | .loc l, st => match st[l]? with
    | some (.lst _) => some "list"
    | some (.dK _) => some "dict"
    | some (.dT _) => some "dict"
    | _ => none
  | .scr _, _ => some "list"
  | _, _ => none
theorem tyX_of {x : Val} {t : String} {v : V} (rs : RS K mg ρ H st) (h : tyName x st = some t) (r : RV K mg ρ H x v) : TyX K H v (.type t) := by
  cases x with
  | non => cases h; rw [RV] at r; subst r; exact .base .non
  | bl b => cases h; rw [RV] at r; subst r; exact .base (.bl b)
  | int b => cases h; rw [RV] at r; subst r; exact .base (.int b)
  | str b => cases h; rw [RV] at r; subst r; exact .base (.str b)
  | tup xs => cases h; rw [RV] at r; obtain ⟨a, vs, rfl, h1, _⟩ := r; exact .base (.tup h1)
  | kt xs =>
    cases h
    rw [RV] at r
    obtain ⟨a, vs, rfl, ⟨o, its, n, h1, h2, _⟩, _⟩ := r
    exact .kTuple h1 h2
  | loc l =>
    rw [RV] at r
    obtain ⟨a, rfl, ha⟩ := r
    cases q : st[l]? with
    | none => simp only [tyName, q] at h; cases h
    | some ob =>
      cases ob with
      | lst xs => simp only [tyName, q] at h; cases h; obtain ⟨vs, h1, _⟩ := rs.at q ha; exact .base (.lst h1)
      | dK xs => simp only [tyName, q] at h; cases h; obtain ⟨vs, h1, _⟩ := rs.at q ha; exact .base (.dK h1)
      | dT xs => simp only [tyName, q] at h; cases h; obtain ⟨vs, h1, _⟩ := rs.at q ha; exact .base (.dT h1)
      | ins _ _ _ => simp only [tyName, q] at h; cases h
  | scr ns =>
    cases h
    rw [RV] at r
    obtain ⟨a, rfl, h1⟩ := r
    rcases h1 with ⟨o, h1⟩ | ⟨o, its, n, h1, h2, _⟩
    · exact .base (.frz h1)
    · exact .kList h1 h2
  | _ => cases h
def kitOk (a b : String) : Option Bool := kitB a b
def oIsi : Val → Val → Sto → R Val := fun x y st => match tyName x st, y with
  | some t, .ty n => match kitB t n with
    | some b => .ok (.bl b) st
    | none => .stuck
  | _, _ => .stuck
theorem ok_isi : ClOk P w K mg base S (.builtin "isinstance") (two' oIsi) := .two fun X hX => by
  have eK := hX.K
  subst eK
  refine ⟨_, call_isi, fun ρ H st x y v u W σ Q rs rv ru p => ?_⟩
  unfold oIsi at p
  split at p
  · rename_i t n ht
    split at p
    · rename_i b hb
      rw [RV] at ru
      subst ru
      exact ⟨v, .ty n, .type t, .type n, b, rfl, .ty n, tyX_of rs ht rv, kit_ty hb, p ρ H _ .refl rs rvb⟩
    · exact p.elim
  · exact p.elim
/-- a type's name -/
theorem simE_ty {x : Str} {n : String} (hg : S.sc.names.lookup x = some .globalImplicit) (hm : mg x = none) (hv : bootBuiltins x = some (.type n)) (hn : x ≠ "__name__" := by decide) (hd : (x == ("__debug__" : Str)) = false := by decide) :
    SimE P w K mg base S (.Name x pos) (eC (.ty n)) := fun X W hX tk =>
  PE.imp (pe_bltn (v := .ty n) (show X.env.scope.names.lookup x = _ by rw [← hX.scope]; exact hg) (by rw [← hX.mg]; exact hm) hv rfl hn hd) fun σ H Q ⟨ρ, st, env, rs, re, h⟩ => h ρ H _ .refl rs (by rw [RV])
end
end Sm

/-! The Sim layer, part 12: methods of lists, products, augmented stores. -/
namespace Sm
open PySem L2
def isL (st : Sto) (x : Val) : Bool := (lstOf st x).isSome
def eLm (o : Val → List Val → Sto → R Val) (mo : Ex) (aa : Ax) : Ex := fun env st => (mo env st).bind fun x st1 => if isL st1 x then (aa env st1).bind fun xs st2 => o x xs st2 else .stuck
section
variable {P : Program} {w : World} {K : PySem.W.Frag} {mg : Str → Option Value} {base : Heap} {S : Sc}
variable {e a b c : Expr} {es : List Expr} {ma mb mc : Ex} {aa ab : Ax} {pos pos' : Pos}
variable {ρ ρ' : List Addr} {H H' : Hp} {W : WX} {σ : L2.St} {st : Sto} {xi : Option XI} {env : Env} {Q : VK}
def MtOk (P : Program) (w : World) (K : PySem.W.Frag) (mg : Str → Option Value) (base : Heap) (S : Sc) (id : String) (o : Val → List Val → Sto → R Val) : Prop := ∀ X, XOk P w K mg base S X → ∃ r : V → List V → Hp → VK → Prop, MtR X id r ∧
  ∀ (ρ : List Addr) (H : Hp) (st : Sto) (x : Val) (xs : List Val) (v : V) (vs : List V) (W : WX) (σ : L2.St) (Q : VK), RS K mg ρ H st → RV K mg ρ H x v → RVs K mg ρ H xs vs → PostE K mg W ρ H σ Q (o x xs st) → r v vs H Q
theorem isL_ty {x : Val} {v : V} (rs : RS K mg ρ H st) (h : isL st x = true) (r : RV K mg ρ H x v) : tyV K "list" v H := by
  unfold isL at h
  cases q : lstOf st x with
  | none => rw [q] at h; cases h
  | some xs =>
    obtain ⟨a, vs, rfl, h1, _⟩ := lstOf_ok rs q r
    exact .inl ⟨rfl, vs, h1⟩
theorem simE_lm0 {x : Str} {id : String} {o : Val → List Val → Sto → R Val} {apos : Pos} (hk : MtOk P w K mg base S id o) (slot : Slot "list" x id) (hty : typeOf (.builtin id) = pure (.type "method_descriptor")) (ho : SimE P w K mg base S a ma)
    (hb : ∀ env, attributeBase a x env (eval a env) = eval a env) (hl : (apos.endLine == pos.line) = true) : SimE P w K mg base S (.Call (.Attribute a x apos) [] [] pos) (eLm o ma aNil) := fun X W hX tk => by
  obtain ⟨r, h1, h2⟩ := hk X hX
  have eK := hX.K
  subst eK
  refine PE.imp (pe_bm0 PySem.F.plainAttrs_list slot hty h1 (ho X W hX tk) (hb _) hl) fun σ H Q ⟨ρ, st, env, rs, re, h⟩ => ⟨ρ, st, env, rs, re, Post.bind h fun ρ1 H1 st1 x v _ e1 rs1 rv p1 => ?_⟩
  split at p1
  · rename_i hL
    exact ⟨isL_ty rs1 hL rv, h2 ρ1 H1 st1 x [] v [] W σ Q rs1 rv .nil p1⟩
  · exact p1.elim
theorem simE_lm {x : Str} {id : String} {o : Val → List Val → Sto → R Val} {apos : Pos} (hk : MtOk P w K mg base S id o) (slot : Slot "list" x id) (hty : typeOf (.builtin id) = pure (.type "method_descriptor")) (ho : SimE P w K mg base S a ma) (ha : SimA P w K mg base S (e :: es) aa)
    (hb : ∀ env, attributeBase a x env (eval a env) = eval a env)
    (hfew : ∀ env, ((backTo pos (starEach (e :: es) env)).all (fun x => !x.1) && (backToKw pos (keywordEach [] env)).all (fun x => x.1.isSome)
      && decide ((e :: es).length + ([] : List Keyword).length + (if ([] : List Keyword).isEmpty then 0 else 1) < 30)) = true)
    (hl : (apos.endLine == pos.line) = true) (hs : ∀ env, starEach (e :: es) env = (false, eval e env) :: starEach es env) (hpl : ∀ env, (backTo pos (starEach es env)).any (·.1) = false) :
    SimE P w K mg base S (.Call (.Attribute a x apos) (e :: es) [] pos) (eLm o ma aa) := fun X W hX tk => by
  obtain ⟨r, h1, h2⟩ := hk X hX
  have eK := hX.K
  subst eK
  refine PE.imp (pe_bm PySem.F.plainAttrs_list slot hty h1 (ho X W hX tk) (ha X W hX tk) (hb _) (hfew _) hl (hs _) (hpl _)) fun σ H Q ⟨ρ, st, env, rs, re, h⟩ => ⟨ρ, st, env, rs, re, Post.bind h fun ρ1 H1 st1 x v _ e1 rs1 rv p1 => ?_⟩
  split at p1
  · rename_i hL
    exact ⟨isL_ty rs1 hL rv, ρ1, st1, env, rs1, re.mono e1, Post.bind p1 fun ρ2 H2 st2 xs vs _ e2 rs2 rvs p2 => h2 ρ2 H2 st2 x xs v vs W σ Q rs2 (rv.mono e2) rvs p2⟩
  · exact p1.elim
def mAppend : Val → List Val → Sto → R Val := fun x xs st => match x, xs with
  | .loc l, [y] => match st[l]? with
    | some (.lst zs) => if zs.length < 16777216 then .ok .non (st.set l (.lst (zs ++ [y]))) else .stuck
    | _ => .stuck
  | _, _ => .stuck
theorem lt_line {n : Nat} (h : n < 16777216) : n < sizeLine := by rw [sizeLine_eq]; exact h
theorem ok_append : MtOk P w K mg base S "list.append" mAppend := fun X hX => ⟨_, mt_append, fun ρ H st x xs v vs W σ Q rs rv rvs p => by
  unfold mAppend at p
  split at p
  · rename_i l y
    split at p
    · rename_i zs hst
      split at p
      · rename_i hz
        rw [RV] at rv
        obtain ⟨p', rfl, hp⟩ := rv
        obtain ⟨u, rfl, ru⟩ := rvs.one
        obtain ⟨us, q1, q2⟩ := rs.at hst hp
        obtain ⟨f1, f2⟩ := putLst rs hp hst (q2.append (.cons ru .nil))
        exact ⟨p', us, u, rfl, rfl, q1, by rw [q2.length]; exact lt_line hz, p ρ _ _ f1 f2 (by rw [RV])⟩
      · exact p.elim
    · exact p.elim
  · exact p.elim⟩
def mPop : Val → List Val → Sto → R Val := fun x xs st => match x, xs with
  | .loc l, [] => match st[l]? with
    | some (.lst zs) => match zs[zs.length - 1]? with
      | some y => .ok y (st.set l (.lst zs.dropLast))
      | none => .stuck
    | _ => .stuck
  | .loc l, [.int i] => match st[l]? with
    | some (.lst zs) => match ixN zs.length i with
      | some k => match zs[k]? with
        | some y => if zs.length ≤ 16777216 then .ok y (st.set l (.lst (zs.eraseIdx k))) else .stuck
        | none => .stuck
      | none => .stuck
    | _ => .stuck
  | _, _ => .stuck
theorem RVs.eraseIdx : ∀ {xs : List Val} {vs : List V} (i : Nat), RVs K mg ρ H xs vs → RVs K mg ρ H (xs.eraseIdx i) (vs.eraseIdx i)
  | [], vs, i, h => by rw [RVs] at h; subst h; exact .nil
  | x :: xs, vs, 0, h => by rw [RVs] at h; obtain ⟨v, r, rfl, h1, h2⟩ := h; exact h2
  | x :: xs, vs, i + 1, h => by rw [RVs] at h; obtain ⟨v, r, rfl, h1, h2⟩ := h; exact .cons h1 (h2.eraseIdx i)
theorem RVs.dropLast {xs : List Val} {vs : List V} (h : RVs K mg ρ H xs vs) : RVs K mg ρ H xs.dropLast vs.dropLast := by
  rw [List.dropLast_eq_take, List.dropLast_eq_take, h.length]
  exact h.take _
theorem MtM.r {X : Cx} {id : String} {r : V → List V → Hp → VK → Prop} (h : MtM X id r) : MtR X id r := h
theorem ok_pop : MtOk P w K mg base S "list.pop" mPop := fun X hX => ⟨_, (MtM.r mt_pop).or (MtM.r mt_popAt), fun ρ H st x xs v vs W σ Q rs rv rvs p => by
  unfold mPop at p
  split at p
  · rename_i l
    split at p
    · rename_i zs hst
      split at p
      · rename_i y hy
        rw [RV] at rv
        obtain ⟨p', rfl, hp⟩ := rv
        have := rvs.zero
        subst this
        obtain ⟨us, q1, q2⟩ := rs.at hst hp
        obtain ⟨u, q3, q4⟩ := q2.at hy
        obtain ⟨f1, f2⟩ := putLst rs hp hst q2.dropLast
        exact .inl ⟨p', us, u, rfl, rfl, q1, by rw [q2.length]; exact q3, p ρ _ _ f1 f2 (q4.mono f1)⟩
      · exact p.elim
    · exact p.elim
  · rename_i l i
    split at p
    · rename_i zs hst
      split at p
      · rename_i k hk
        split at p
        · rename_i y hy
          split at p
          · rename_i hz
            rw [RV] at rv
            obtain ⟨p', rfl, hp⟩ := rv
            obtain ⟨u1, rfl, ru⟩ := rvs.one
            rw [RV] at ru
            subst ru
            obtain ⟨us, q1, q2⟩ := rs.at hst hp
            obtain ⟨u, q3, q4⟩ := q2.at hy
            obtain ⟨f1, f2⟩ := putLst rs hp hst (q2.eraseIdx k)
            obtain ⟨g1, g2, g3, g4⟩ := ixN_seq hk
            exact .inr ⟨p', us, i, k, u, rfl, rfl, q1, by omega, by omega, by rw [q2.length]; exact g1, q3, p ρ _ _ f1 f2 (q4.mono f1)⟩
          · exact p.elim
        · exact p.elim
      · exact p.elim
    · exact p.elim
  · exact p.elim⟩
/-! ### products -/
theorem ok_mul : OpOk P w K mg base S (binaryOp .Mult) oMul := fun X hX => by
  have eK := hX.K
  subst eK
  refine ⟨_, op_mulX.or op_repT, fun ρ H st x y v u W σ Q rs rv ru p => ?_⟩
  unfold oMul at p
  split at p
  · rename_i i j
    split at p
    · rename_i hh
      rw [RV] at rv
      rw [RV] at ru
      exact .inl ⟨i, j, rv, ru, hh, p ρ H _ .refl rs rvi⟩
    · exact p.elim
  · rename_i k _
    split at p
    · rename_i xs hx
      split at p
      · rename_i hh
        obtain ⟨h1, h2, h3, h4⟩ := hh
        rw [RV] at ru
        obtain ⟨a, vs, rfl, q1, q2⟩ := tupOf_ok hx rv
        refine .inr ⟨a, k, vs, rfl, ru, q1, fun e => h1 ?_, h2, h3, by rw [q2.length]; exact h4, fun p' hp => ?_⟩
        · have := q2.length
          rw [e] at this
          exact List.length_eq_zero_iff.mp this.symm
        · obtain ⟨f1, f2, f3⟩ := newTup rs hp (q2.rep k.toNat)
          exact p _ _ _ f1 f2 f3
      · exact p.elim
    · exact p.elim
  · exact p.elim
/-! ### a op= b -/
theorem ipOpI {op : Operator} {C : Int → Int → Prop} {g : Int → Int → V} {g' : Int → Int → Val} {c : Int → Int → Bool} (h : ∀ X : Cx, OpR X (inplaceOp op) (rI C g)) (hc : ∀ i j, c i j = true → C i j) (hg : ∀ ρ H i j, RV K mg ρ H (g' i j) (g i j)) : IpOk P w K mg base S op (oInt g' c) := fun X hX => by
  obtain ⟨r, h1, h2⟩ := okOpI (S := S) (P := P) (w := w) (K := K) (mg := mg) (base := base) h hc hg X hX
  exact ⟨r, h1, h2⟩
theorem ipOpI0 {op : Operator} {g : Int → Int → V} {g' : Int → Int → Val} (h : ∀ X : Cx, OpR X (inplaceOp op) (rI0 g)) (hg : ∀ ρ H i j, RV K mg ρ H (g' i j) (g i j)) : IpOk P w K mg base S op (oInt g' fun _ _ => true) := fun X hX => by
  obtain ⟨r, h1, h2⟩ := okOpI0 (S := S) (P := P) (w := w) (K := K) (mg := mg) (base := base) h hg X hX
  exact ⟨r, h1, h2⟩
theorem ip_ok_add : IpOk P w K mg base S .Add (oInt (fun i j => .int (i + j)) fun _ _ => true) := ipOpI0 (fun _ => iop_add) fun _ _ _ _ => rvi
theorem ip_ok_sub : IpOk P w K mg base S .Sub (oInt (fun i j => .int (i - j)) fun _ _ => true) := ipOpI0 (fun _ => iop_sub) fun _ _ _ _ => rvi
theorem ip_ok_shr : IpOk P w K mg base S .RShift (oInt (fun i j => .int (i / 2 ^ j.toNat)) fun _ j => decide (0 ≤ j)) := ipOpI (fun _ => iop_shr) (fun _ _ h => of_decide_eq_true h) fun _ _ _ _ => rvi
theorem ip_ok_and : IpOk P w K mg base S .BitAnd (oInt (fun i j => .int (Builtin.bitAnd i j)) fun _ _ => true) := ipOpI0 (fun _ => iop_and) fun _ _ _ _ => rvi
theorem ip_ok_or : IpOk P w K mg base S .BitOr (oInt (fun i j => .int (Builtin.bitOr i j)) fun _ _ => true) := ipOpI0 (fun _ => iop_or) fun _ _ _ _ => rvi
theorem ip_ok_xor : IpOk P w K mg base S .BitXor (oInt (fun i j => .int (Builtin.bitXor i j)) fun _ _ => true) := ipOpI0 (fun _ => iop_xor) fun _ _ _ _ => rvi
/-! ### -a -/
def oNeg : Val → Sto → R Val
  | .int i, st => .ok (.int (-i)) st
  | _, _ => .stuck
theorem simE_neg (ha : SimE P w K mg base S a ma) : SimE P w K mg base S (.UnaryOp .USub a pos) (eUn oNeg ma) := fun X W hX tk =>
  PE.imp (pe_un un_neg (ha X W hX tk)) fun σ H Q ⟨ρ, st, env, rs, re, h⟩ => ⟨ρ, st, env, rs, re, Post.bind h fun ρ1 H1 st1 x v _ e1 rs1 rv p1 => by
    cases x with
    | int i => rw [RV] at rv; exact ⟨i, rv, p1 ρ1 H1 _ .refl rs1 rvi⟩
    | _ => exact p1.elim⟩
end
end Sm

/-! The Sim layer: own errors, whose base is an own class over Exception, and whose __init__ says super().__init__(x); self.x = x. -/
namespace Sm
open PySem PySem.Calls PyProof.Rows L2
/-! ### the text -/
def xA (pn : Str) (p1 p2 : Pos) : Arguments := { posonlyargs := [], args := [{ arg := "self", annotation := none, pos := p1 }, { arg := pn, annotation := none, pos := p2 }], vararg := none, kwonlyargs := [], kw_defaults := [], kwarg := none, defaults := [] }
def xB (pn : Str) (a1 a2 a3 a4 a5 a6 q1 q2 q3 q4 : Pos) : List Stmt := [.Expr (.Call (.Attribute (.Call (.Name "super" a1) [] [] a2) "__init__" a3) [.Name pn a4] [] a5) a6, .Assign [.Attribute (.Name "self" q1) pn q2] (.Name pn q3) q4]
def xS (pn : Str) : Scope := { kind := .function, names := [("self", .local), (pn, .local), ("__class__", .free), ("super", .globalImplicit)], isGenerator := false, isCoroutine := false, more := [] }
abbrev xTail (T : Addr) : List Value := [.ref T, .type "Exception", .type "BaseException", .type "object"]
structure ExTxt (P : Program) (K : PySem.W.Frag) (mg : Str → Option Value) (c pn : Str) (C T fI cc : Addr) : Prop where
  gC : mg c = some (.ref C)
  kC : PySem.W.keepIn K (.ref C) = true
  cls : ∃ nm q N bs sn sub ab col dd k0 k1 k2 k3 k5, K.lookup C = some (excClassObj nm q C N bs (xTail T) true sn sub ab col dd k0 k1 k2 k3 k5 "Exception.__new__")
  sa : PySem.W.findIn K (.ref C) "__setattr__" = some (some (.builtin "object.__setattr__"))
  noN : PySem.W.findIn K (.ref C) pn = some none
  iC : PySem.W.findIn K (.ref C) "__init__" = some (some (.ref fI))
  tF : PySem.W.typeIn K (.ref fI) = some (.type "function")
  sI : PySem.W.alongIn K "__init__" (xTail T) = some (some (.builtin "Exception.__init__"))
  no3 : PySem.W.nsIn K PySem.cStatics "thirdparty.any" = some none
  exC : PySem.W.subIn K (.ref C) (.type "BaseException") = some true
  tyC : PySem.W.typeIn K (.ref C) = some (.type "type")
  fn : ∃ (oc : Value) (od : Option Addr) (qual : Str) (p1 p2 a1 a2 a3 a4 a5 a6 q1 q2 q3 q4 : Pos) (doc pm : Value) (an : Option Addr) (cda : Addr) (ct : Value) (osl : Array (Option Value)) (ccl : Value) (cdd : Option Addr) (vs : Array Value) (ccs : Array (Option Value)) (file : Str) (tf : Tok),
    K.lookup fI = some ⟨oc, od, .func (PySem.W.fnX "__init__" qual (xA pn p1 p2) (xB pn a1 a2 a3 a4 a5 a6 q1 q2 q3 q4) (xS pn) [("__class__", cc)] .none .none doc pm an (.ref cda) ct), osl⟩ ∧ PySem.W.codeIn K (.ref cda) qual = true ∧
      K.lookup cda = some ⟨ccl, cdd, .fields vs, ccs⟩ ∧ vs[2]? = some (.str file tf) ∧ ((P.main.file : Str) == file) = true ∧ (a3.endLine == a5.line) = true
  cell : ∃ (cl : Value) (cld : Option Addr) (csl : Array (Option Value)), K.lookup cc = some ⟨cl, cld, .cell (some (.ref C)), csl⟩
  top : (P.main.scope.names.lookup ("super" : Str)).isSome = false
  sup : mg "super" = none
  pnc : pn = "at" ∨ pn = "word" ∨ pn = "public"
theorem pnc_ne {pn : Str} (h : pn = "at" ∨ pn = "word" ∨ pn = "public") : (pn == ("self" : Str)) = false ∧ (pn == ("__debug__" : Str)) = false ∧ (pn == ("__class__" : Str)) = false ∧ (pn == ("super" : Str)) = false := by
  rcases h with rfl | rfl | rfl <;> decide

theorem x_meth {pn : Str} {a1 a2 a3 a4 a5 : Pos} {env : PySem.Env} (hl : (a3.endLine == a5.line) = true) : eval (.Call (.Attribute (.Call (.Name "super" a1) [] [] a2) "__init__" a3) [.Name pn a4] [] a5) env = (do
      let ov ← attributeBase (.Call (.Name "super" a1) [] [] a2) "__init__" env (eval (.Call (.Name "super" a1) [] [] a2) env)
      standAt a3.atName
      let (f, first) ← holding [ov] (getMethod ov "__init__" (do return (← importBound (.Call (.Name "super" a1) [] [] a2) env).getD true))
      callWith a5 f first (backTo a5 (starEach [.Name pn a4] env)) []) := by
  have hp : ∀ b : Bool, methodCallPos b (.Call (.Name "super" a1) [] [] a2) env a3 a5 = pure a5 := fun b => by
    unfold methodCallPos
    rw [hl, Bool.or_true]
    rfl
  show (do
    let ov ← attributeBase (.Call (.Name "super" a1) [] [] a2) "__init__" env (eval (.Call (.Name "super" a1) [] [] a2) env)
    standAt a3.atName
    methodCall (.Call (.Name "super" a1) [] [] a2) "__init__" a3 a5 env ov 1 (backTo a5 (starEach [.Name pn a4] env)) []) = _
  unfold methodCall
  simp only [hp, pure_bind]
  rfl
/-! ### self.x = v on an error with an own base -/
section
open Builtin Builtin.ObjectAttr
variable {prog : Program} {w : World} {A : Around} {E : Value → Shared → Prop} {R : Result → Shared → Prop} {hp : Heap} {g : Array GenState} {d : Drawn} {t : Nat} {os : OsState}
theorem x_mro {K : PySem.W.Frag} {C T : Addr} {cd : ClassData} (hcd : PySem.W.clsIn K C = some cd) (hm : cd.mro = .ref C :: xTail T) {b : Value} (hb : (Value.ref C :: xTail T).contains b = true) : PySem.W.mroIn K C b = some true := by
  unfold PySem.W.mroIn
  rw [hcd, Option.bind_some, hm, if_neg (show ¬ (List.isEmpty (Value.ref C :: xTail T) = true) from Bool.false_ne_true), hb]
theorem x_tail {C T : Addr} (X : String) (h : ([Value.type "Exception", .type "BaseException", .type "object"] : List Value).contains (.type X) = true) : (Value.ref C :: xTail T).contains (.type X) = true := by
  rw [List.contains_cons, List.contains_cons, h, Bool.or_true, Bool.or_true]
theorem x_store {K : PySem.W.Frag} {name : Str} {tk : Tok} {v : Value} {x C T : Addr} {fv : Array Value} {cd : ClassData}
    (X : K.In hp) (hx : hp.get? x = some { cls := .ref C, data := .fields fv }) (hcd : PySem.W.clsIn K C = some cd) (hm : cd.mro = .ref C :: xTail T) (hh : cd.hasDict = true) (ha : PySem.W.findIn K (.ref C) name = some none)
    (hq : ∀ h' tk' dx, (∀ b o, b ≠ x → hp.get? b = some o → h'.get? b = some o) → hp.objs.size ≤ dx → dx ≠ x → h'.get? x = some { cls := .ref C, dict := some dx, data := .fields fv } →
      h'.Ns1 dx (fun y => if y = name then some v else none) → R (.ok (.ret .none)) ⟨h', g, d, tk', os⟩) :
    codeAny (model prog w) A (.call (.builtin "object.__setattr__") ⟨[.ref x, .str name tk, v], []⟩) R ⟨hp, g, d, t, os⟩ := by
  have I : PySem.W.InstAt hp x { cls := .ref C, data := .fields fv } C none := ⟨hx, rfl, rfl, trivial⟩
  have hxs : x ≠ hp.objs.size := Nat.ne_of_lt (Heap.lt_size hx)
  have SF := PySem.F.store_object
  have sub : PySem.W.Looks (model prog w) hp (isInstance (.ref x) (.type "object")) true := I.type.andThen (PySem.W.looks_mroIn X (x_mro hcd hm (x_tail "object" (by decide +kernel))))
  refine codeAny_call_builtin SF.slot.plain SF.entry (@PySem.W.check_slot (model prog w) _ _ ⟨hp, g, d, t, os⟩ "object.__setattr__" "object" "__setattr__" (.ref x) [.str name tk, v] [] _ SF.kind SF.split sub (SF.args (.ref x) (.str name tk) v) ?_)
  have hmr : PySem.W.Looks (model prog w) hp (mroOf (.ref C)) cd.mro := (PySem.W.looks_clsIn X hcd).andThen .now
  have L3 : PySem.W.Looks (model prog w) hp (storeTaker? none) none := .now
  have hpass : refuseLoop (.ref x) "__setattr__" cd.mro = pure () := by
    rw [hm, refuseLoop_ref, refuseLoop_ref]
    exact PySem.F.store_Exception.passes _
  have hcls : PySem.W.Looks (model prog w) hp (classData C) cd := PySem.W.looks_clsIn X hcd
  rw [PySem.W.osa_eq, refuse_eq]
  refine wpAny_bind (wpAny_bind (I.type.at (wpAny_bind (hmr.at ?_))))
  rw [hpass]
  refine wpAny_pure (wpAny_bind (I.type.at (wpAny_bind ((PySem.W.looks_findIn X ha).at (wpAny_bind (L3.at ?_))))))
  show wpAny _ _ (storeInOwnDict (.ref x) (.ref C) (.str name tk) name v false) _ _ _
  obtain ⟨nm, bs, mro, ns, qn, hd, sn, sb, ab, col, del⟩ := cd
  dsimp only at hh
  subst hh
  unfold storeInOwnDict ownDictForStores
  repeat (first | with_reducible refine HandSPX.store_in_new ?_ ?_ | with_reducible refine wpAny_loadPart_at hx ?_ | with_reducible refine hcls.at ?_ | wp_step)
  · exact ⟨_, #[], _, (Heap.get?_update_ne _ _ _ _ hxs.symm).trans (Heap.get?_push_at rfl rfl), rfl, fun e he => absurd he (by simp), fun _ => rfl⟩
  · intro h' tk' hn' hs
    have hx₁ : (hp.push { cls := .type "dict", data := .dict #[] }).get? x = some { cls := .ref C, data := .fields fv } := Heap.get?_push_of_some _ hx
    refine hq h' tk' hp.objs.size (fun b o hb ho => ?_) (Nat.le_refl _) hxs.symm ?_ hn'
    · exact (hs.2 b (Nat.ne_of_lt (Heap.lt_size ho))).trans ((Heap.get?_update_ne _ _ _ _ hb).trans (Heap.get?_push_of_some _ ho))
    · exact (hs.2 x hxs).trans (Heap.get?_update_self _ hx₁ rfl)
end
/-- what __init__ leaves of a fresh error at x -/
structure XEnd (h h' : Heap) (x C dx t1 : Addr) (pn : Str) (v : Value) : Prop where
  keep : ∀ b o, b ≠ x → h.get? b = some o → h'.get? b = some o
  obj : h'.get? x = some { cls := .ref C, dict := some dx, data := .fields #[.ref t1, .none, .none, .none, .bool false, .none] }
  dbig : h.objs.size ≤ dx
  dne : dx ≠ x
  ns : h'.Ns1 dx (fun y => if y = pn then some v else none)
structure XMade (h h' : Heap) (e C d : Addr) (pn : Str) (v : Value) : Prop where
  keep : ∀ b o, h.get? b = some o → h'.get? b = some o
  new : h.objs.size ≤ e
  obj : ∃ oe vs, h'.get? e = some oe ∧ oe.cls = .ref C ∧ oe.dict = some d ∧ oe.data = .fields vs ∧ vs[1]? = some .none
  dbig : h.objs.size ≤ d
  dne : d ≠ e
  ns : h'.Ns1 d (fun y => if y = pn then some v else none)
section
variable {prog : Program} {w : World} {A : Around} {E : Value → Shared → Prop} {R : Result → Shared → Prop} {s : Shared} {K : PySem.W.Frag} {mg : Str → Option Value} {c pn : Str} {C T fI cc : Addr}
theorem x_init (T' : ExTxt prog K mg c pn C T fI cc) {x t0 : Addr} {v : Value} (X : K.In s.heap) (hlim : s.heap.NoLimit) (hmg : s.heap.Ns mainGlobals mg) (hbl : ∃ mb, s.heap.Ns builtinsNs mb ∧ ∀ x : Str, x ≠ "__name__" → mb x = bootBuiltins x)
    (hx : s.heap.get? x = some (HandSPX.excO C t0)) (hnx : K.lookup x = none) (hroom : A.depth < recursionLimit)
    (hq : ∀ h' tk dx t1, XEnd s.heap h' x C dx t1 pn v → R (.ok (.ret .none)) { s with heap := h', toks := tk }) :
    codeAny (model prog w) A (.call (.ref fI) ⟨[.ref x, v], []⟩) R s := by
  obtain ⟨oc, od, qual, p1, p2, a1, a2, a3, a4, a5, a6, q1, q2, q3, q4, doc, pm, an, cda, ct, osl, ccl, cdd, vs, ccs, file, tf, ho, hcd, hcode, hvs, hfile, hline⟩ := T'.fn
  obtain ⟨nm, q, N, bs, sn, sub, ab, col, dd, k0, k1, k2, k3, k5, hC⟩ := T'.cls
  obtain ⟨cl, cld, csl, hcell⟩ := T'.cell
  obtain ⟨mb, hb1, hb2⟩ := hbl
  have hcl : PySem.W.clsIn K C = some { name := nm, bases := bs, mro := .ref C :: xTail T, ns := N, qualname := q, hasDict := true, slotNames := sn, subclasses := sub, abstract := ab, collection := col, hasDel := false } := by unfold PySem.W.clsIn; rw [hC] <;> rfl
  obtain ⟨n1, n2, n3, n4⟩ := pnc_ne T'.pnc
  have ls : (xS pn).names.lookup ("self" : Str) = some .local := rfl
  have lp : (xS pn).names.lookup pn = some .local := by
    show List.lookup pn [(("self" : Str), NameKind.local), (pn, .local), ("__class__", .free), ("super", .globalImplicit)] = _
    rw [List.lookup_cons, n1]
    simp [List.lookup]
  have lc : (xS pn).names.lookup ("__class__" : Str) = some .free := by
    show List.lookup ("__class__" : Str) [(("self" : Str), NameKind.local), (pn, .local), ("__class__", .free), ("super", .globalImplicit)] = _
    have : (("__class__" : Str) == pn) = false := by rw [beq_eq_false_iff_ne] at n3 ⊢; exact fun e => n3 e.symm
    rw [List.lookup_cons, show (("__class__" : Str) == ("self" : Str)) = false by decide, List.lookup_cons, this]
    simp [List.lookup]
  have lu : (xS pn).names.lookup ("super" : Str) = some .globalImplicit := by
    show List.lookup ("super" : Str) [(("self" : Str), NameKind.local), (pn, .local), ("__class__", .free), ("super", .globalImplicit)] = _
    have : (("super" : Str) == pn) = false := by rw [beq_eq_false_iff_ne] at n4 ⊢; exact fun e => n4 e.symm
    rw [List.lookup_cons, show (("super" : Str) == ("self" : Str)) = false by decide, List.lookup_cons, this, List.lookup_cons, show (("super" : Str) == ("__class__" : Str)) = false by decide]
    simp [List.lookup]
  refine ks_codeAny_call_defAt (fd := PySem.W.fnX "__init__" qual (xA pn p1 p2) (xB pn a1 a2 a3 a4 a5 a6 q1 q2 q3 q4) (xS pn) [("__class__", cc)] .none .none doc pm an (.ref cda) ct) (body := xB pn a1 a2 a3 a4 a5 a6 q1 q2 q3 q4) (binds := [("self", .ref x), (pn, v)]) hroom (X _ _ ho) rfl hlim (PySem.W.codeRec_of X hcd) rfl ?bind ?cell ?loc (fun h₁ hns k => ?body) rfl rfl rfl
  case bind =>
    rcases T'.pnc with rfl | rfl | rfl <;> exact BindsTo.of_eq (by first | rfl | with_unfolding_all rfl)
  case cell =>
    intro y hy
    have hy' : y ∈ [(("self" : Str), NameKind.local), (pn, .local), (("__class__" : Str), .free), (("super" : Str), .globalImplicit)] := hy
    simp only [List.mem_cons, List.not_mem_nil, or_false] at hy'
    rcases hy' with h | h | h | h <;> subst h <;> exact fun z => nomatch z
  case loc =>
    intro y hy
    simp only [List.mem_cons, List.not_mem_nil, or_false] at hy
    rcases hy with h | h <;> subst h
    · exact ls
    · exact lp
  case body =>
    have X1 : K.In h₁ := X.keeps k
    have hx1 := k _ _ hx
    have hxL : s.heap.objs.size ≠ x := Nat.ne_of_gt (Heap.lt_size hx)
    have hgl := hmg.keeps k
    have hbl := hb1.keeps k
    have vself : (fun y => ([(("self" : Str), Value.ref x), (pn, v)] : List (Str × Value)).reverse.lookup y) "self" = some (.ref x) := by
      show List.lookup ("self" : Str) [(pn, v), (("self" : Str), Value.ref x)] = _
      have : (("self" : Str) == pn) = false := by rw [beq_eq_false_iff_ne] at n1 ⊢; exact fun e => n1 e.symm
      rw [List.lookup_cons, this]
      simp [List.lookup]
    have vpn : (fun y => ([(("self" : Str), Value.ref x), (pn, v)] : List (Str × Value)).reverse.lookup y) pn = some v := by
      show List.lookup pn [(pn, v), (("self" : Str), Value.ref x)] = _
      simp [List.lookup]
    obtain ⟨hp, g, d, t, os⟩ := s
    refine ks_wpAt_execs_cons (ks_wpAt_Expr_any (ks_wpAt_MethodCall ?_ (x_meth hline)))
    refine ks_wpAt_super_base (env := callEnv (PySem.W.fnX "__init__" qual (xA pn p1 p2) (xB pn a1 a2 a3 a4 a5 a6 q1 q2 q3 q4) (xS pn) [("__class__", cc)] .none .none doc pm an (.ref cda) ct) hp.objs.size fI) lu lc rfl rfl (X1 _ _ ho) rfl rfl rfl (X1 _ _ hcode) rfl hvs hfile T'.top ?_
    refine PySem.W.ks_loadName_global rfl lu (loadGlobal_builtin (env := callEnv (PySem.W.fnX "__init__" qual (xA pn p1 p2) (xB pn a1 a2 a3 a4 a5 a6 q1 q2 q3 q4) (xS pn) [("__class__", cc)] .none .none doc pm an (.ref cda) ct) hp.objs.size fI) hgl T'.sup hbl ((hb2 _ (by decide +kernel)).trans (show bootBuiltins "super" = some (.type "super") by decide +kernel)) ⟨rfl, ?_⟩)
    refine wpAny_loadName_free rfl lc rfl ⟨_, X1 _ _ hcell, rfl⟩ ?_
    refine wpAny_loadName_local rfl ls hns vself ?_
    refine ks_wpAny_isType_cls (X1 _ _ hC) rfl ⟨rfl, ?_⟩
    refine ks_wpAny_call_super (X1 _ _ hC) rfl hx1 rfl (fun c e => by cases e) (PySem.W.looks_mroIn X1 (x_mro hcl rfl (by simp))) fun h2 e2 k2 => ?_
    have X2 : K.In h2 := X1.keeps k2
    have hx2 := k2 _ _ hx1
    have I2 : PySem.W.InstAt h2 x (HandSPX.excO C t0) C none := ⟨hx2, rfl, rfl, trivial⟩
    have hxC : x ≠ C := fun z => by rw [z, hC] at hnx; cases hnx
    refine ESX.getMethod_super (K := K) (l₀ := .ref C :: xTail T) (l := xTail T) e2 (PySem.W.looks_opaque X2 T'.no3) ((PySem.W.looks_clsIn X2 hcl).andThen .now) (ESX.drop_own C _) X2 T'.sI hxC (by decide) (I2.type.andThen (PySem.W.looks_mroIn X2 (x_mro hcl rfl (x_tail "Exception" (by decide +kernel))))) ?_
    have k3 : ∀ b o, h2.get? b = some o → (h2.push (ESX.bw x)).get? b = some o := fun b o e => Heap.get?_push_of_some _ e
    refine ESX.callWith_bound (x := x) ?_ rfl rfl
    refine spliced_cons (wpAny_Name (wpAny_loadName_local rfl lp ((hns.keeps k2).keeps k3) vpn ?_) n2)
    refine spliced_nil ⟨Heap.get?_push_at rfl rfl, ?_⟩
    refine ESX.call_bw (k3 _ _ (X2 _ _ hC)) (k3 _ _ hx2) (Heap.get?_push_at rfl rfl) (by rw [sizeLine_eq]; exact (by decide : 1 ≤ 16777216)) fun h4 t1 k4 hx4 => ?_
    have hN4 : ∀ b o, b ≠ x → h₁.get? b = some o → h4.get? b = some o := fun b o hb e => k4 b o hb (k3 _ _ (k2 _ _ e))
    have X4 : K.In h4 := fun b o e => hN4 b o (fun z => by rw [z, hnx] at e; cases e) (X1 _ _ e)
    have hns4 : h4.Ns hp.objs.size (fun y => ([(("self" : Str), Value.ref x), (pn, v)] : List (Str × Value)).reverse.lookup y) := by
      obtain ⟨o, es, ep, e, r⟩ := hns
      exact ⟨o, es, ep, hN4 _ _ hxL e, r⟩
    refine ks_wpAt_execs_cons (wpAt_of_wpAny (plainObj_wpAny_Assign_Attribute ?_ rfl))
    refine wpAny_Name (wpAny_loadName_local rfl lp hns4 vpn ?_) n2
    refine wpAny_Name (wpAny_loadName_local rfl ls hns4 vself ?_) (by decide)
    refine PySem.W.set_plain X4 (ox := HandSPX.excO C t1) (od := none) ⟨hx4, rfl, rfl, trivial⟩ T'.sa ?_
    refine x_store X4 hx4 hcl rfl rfl T'.noN fun h5 tk5 dx k5 dn dne hx5 hn5 => ?_
    refine wpAt_of_wpAny (wpAny_execs_nil (hq h5 tk5 dx t1 ⟨fun b o hb e => k5 b o hb (hN4 b o hb (k b o e)), hx5, ?_, dne, hn5⟩))
    have z1 : hp.objs.size < h4.objs.size := hns4.lt
    exact Nat.le_of_lt (Nat.lt_of_lt_of_le z1 dn)
end
end Sm

/-! The Sim layer: raise X(e), X an own error. -/
namespace Sm
open PySem PySem.Calls PyProof.Rows L2
section
variable {prog : Program} {w : World} {A : Around} {R : Result → Shared → Prop} {s : Shared} {K : PySem.W.Frag} {mg : Str → Option Value} {c pn : Str} {C T fI cc : Addr}
theorem x_made (T' : ExTxt prog K mg c pn C T fI cc) {v : Value} (X : K.In s.heap) (hlim : s.heap.NoLimit) (hmg : s.heap.Ns mainGlobals mg) (hbl : ∃ mb, s.heap.Ns builtinsNs mb ∧ ∀ x : Str, x ≠ "__name__" → mb x = bootBuiltins x) (hroom : A.depth + 1 < recursionLimit)
    (hq : ∀ h' tk e d, XMade s.heap h' e C d pn v → R (.ok (.ret (.ref e))) { s with heap := h', toks := tk }) :
    codeAny (model prog w) A (.call (.ref C) ⟨[v], []⟩) R s := by
  obtain ⟨nm, q, N, bs, sn, sub, ab, col, dd, k0, k1, k2, k3, k5, hC⟩ := T'.cls
  obtain ⟨hp, g, dr, tk, os⟩ := s
  have k : ∀ b o, hp.get? b = some o → ((hp.push (PySem.W.kdv_tup [v])).push (HandSPX.excO C hp.objs.size)).get? b = some o := fun b o e => Heap.get?_push_of_some _ (Heap.get?_push_of_some _ e)
  have hget : ((hp.push (PySem.W.kdv_tup [v])).push (HandSPX.excO C hp.objs.size)).get? (hp.objs.size + 1) = some (HandSPX.excO C hp.objs.size) := by heap_get
  have hnx : K.lookup (hp.objs.size + 1) = none := by
    cases e : K.lookup (hp.objs.size + 1) with
    | none => rfl
    | some o =>
      have z : hp.get? (hp.objs.size + 1) = some o := X _ _ e
      exact absurd (Nat.lt_of_succ_lt (Heap.lt_size z)) (Nat.lt_irrefl _)
  refine HandSPX.call_own PySem.F.excBase_Exception (bm := xTail T) (fun X => by rw [List.contains_cons]; rfl) (X _ _ hC) (PySem.W.looks_findIn X T'.iC) (fun self => PySem.W.bind_fn X self T'.tF) (by rw [sizeLine_eq]; exact (by decide : 1 ≤ 16777216)) ?_
  refine x_init (s := ⟨(hp.push (PySem.W.kdv_tup [v])).push (HandSPX.excO C hp.objs.size), g, dr, tk, os⟩) T' (X.keeps k) (hlim.keeps k) (hmg.keeps k) (by obtain ⟨mb, h1, h2⟩ := hbl; exact ⟨mb, h1.keeps k, h2⟩) hget hnx ?_ fun h' tk' dx t1 ⟨k', hx, dn, dne, hns⟩ => ?_
  · show A.depth + 1 < recursionLimit
    exact hroom
  · have old : ∀ b o, hp.get? b = some o → h'.get? b = some o := fun b o e => k' b o (Nat.ne_of_lt (Nat.lt_succ_of_lt (Heap.lt_size e))) (k b o e)
    have z : hp.objs.size + 1 + 1 ≤ dx := by
      first
        | (simpa only [Heap.size_push] using dn)
        | exact dn
        | (have q := dn; rw [Heap.size_push, Heap.size_push] at q; exact q)
    exact ⟨rfl, hq h' tk' (hp.objs.size + 1) dx ⟨old, Nat.le_succ _, ⟨_, _, hx, rfl, rfl, rfl, rfl⟩, Nat.le_trans (Nat.le_trans (Nat.le_succ _) (Nat.le_succ _)) z, dne, hns⟩⟩
end
theorem relO_x {pn : Str} {v : V} {v' : Value} (r : RelV v v') (f : Str) : RelO (List.lookup f [(pn, v)]) (if f = pn then some v' else none) := by
  by_cases hw : f = pn
  · subst hw
    rw [if_pos rfl]
    have q : List.lookup f [(f, v)] = some v := by simp [List.lookup]
    rw [q]
    exact r
  · rw [if_neg hw]
    have qw : (f == pn) = false := by simpa using hw
    have q2 : List.lookup f [(pn, v)] = none := by simp [List.lookup, qw]
    rw [q2]
    trivial
section
variable {X : Cx} {C T fI cc : Addr} {c pn : Str}
def tMkX (C : Addr) (pn : Str) (ta : TE) : L2.St → Hp → XK → Prop := fun σ H Q => ta σ H fun v H1 => ∀ d, H1 d = none → Q (.ref C) (some d) (upd H1 d (.xd [(pn, v)]))
theorem pmk_x {a : Expr} {ta : TE} {p pos : Pos} {k : Nat} (T' : ExTxt X.prog X.K X.mg c pn C T fI cc) (hr : Room k X.A) (ha : PE X a ta) (hg : Gl X c) (hdb : (c == ("__debug__" : Str)) = false)
    (he : starEach (a :: []) X.env = (false, eval a X.env) :: starEach [] X.env) :
    PMk X (.Call (.Name c p) [a] [] pos) (tMkX C pn ta) := by
  intro pins s σ H Q I h
  refine wpAny_Call_Name_kw (ld_glob I hg T'.gC ?_ hdb)
  refine PySem.W.callWith_K (h₀ := X.base) I.ok.mod.kin T'.kC ?_ he (by rfl)
  rw [he]
  show wpAny _ _ (spliced ((false, eval a X.env) :: backTo pos (starEach [] X.env))) _ _ s
  refine Calls.spliced_cons (thn (ha.run pins s σ H _ I h) fun v' s1 ⟨v, H1, I1, rv, q1⟩ => ?_)
  refine Calls.spliced_nil ⟨I1.kIn, ?_⟩
  show wpAny _ _ (call (.ref C) [v']) _ _ _
  have hlim := I1.nolimit
  have hmg : s1.heap.Ns mainGlobals X.mg := I1.mod.glob.keeps I1.bk
  have hbl : ∃ mb, s1.heap.Ns builtinsNs mb ∧ ∀ x : Str, x ≠ "__name__" → mb x = bootBuiltins x := by
    obtain ⟨mb, h1, h2⟩ := I1.mod.blt
    exact ⟨mb, h1.keeps I1.bk, h2⟩
  have kin := I1.kIn
  obtain ⟨hp, g, dr, tk, os⟩ := s1
  refine wpAny_call (x_made T' kin hlim hmg hbl (by have := hr.dp; omega) fun h' tk' e d M => ?_)
  show MkP X pins σ Q (.ref e) ⟨h', g, dr, tk', os⟩
  obtain ⟨oe, fv, hoe, hc, hd, hdat, h1⟩ := M.obj
  have hns := M.ns
  obtain ⟨G', g1, g2⟩ := restrict h' fun b => decide (b ≠ e)
  have gk : ∀ b, b ≠ e → G'.get? b = h'.get? b := fun b hb => g1 b (decide_eq_true hb)
  have ge : G'.get? e = none := g2 e (by simp)
  have old : ∀ b o, hp.get? b = some o → G'.get? b = some o := fun b o q => (gk b (Nat.ne_of_lt (Nat.lt_of_lt_of_le (Heap.lt_size q) M.new))).trans (M.keep b o q)
  have ob : ObjOk X.prog X.w (upd H1 d (.xd [(pn, v)])) G' d (.xd [(pn, v)]) :=
    ⟨_, hns.at (fun o q => (gk d M.dne).trans q), fun f => relO_x rv f⟩
  have J : Inv X pins σ (upd H1 d (.xd [(pn, v)])) ⟨G', g, dr, tk', os⟩ := I1.laid (t' := tk') old M.dbig ob
  refine ⟨e, oe, fv, ⟨G', g, dr, tk', os⟩, _, .ref C, some d, rfl, J, fun b o q => ?_, ge, hoe, ⟨hc, hd⟩, hdat, h1, ?_, rfl, I1.bare, raises_own T'.exC T'.tyC, q1 d (I1.hok.fresh M.dbig)⟩
  · by_cases hb : b = e
    · have q' : G'.get? b = some o := q
      rw [hb, ge] at q'; cases q'
    · exact (gk b hb).symm.trans q
  · rw [upd_ne (Ne.symm M.dne)]
    exact I1.hok.fresh M.new
end
/-- raise c(a) -/
def sRaise (c pn : Str) (a : Ex) : Sx := fun env st => (a env st).to env fun x st1 => .er (c, [(pn, x)]) env st1
section
variable {P : Program} {w : World} {K : PySem.W.Frag} {mg : Str → Option Value} {base : Heap} {S : Sc}
theorem simS_raise {a : Expr} {ma : Ex} {p pos pos2 : Pos} {c pn : Str} {C T fI cc : Addr} (hc : S.calm = true) (T' : ExTxt P K mg c pn C T fI cc) (hg : S.sc.names.lookup c = some .globalImplicit) (ha : SimE P w K mg base S a ma)
    (he : ∀ env, starEach (a :: []) env = (false, eval a env) :: starEach [] env) (hdb : (c == ("__debug__" : Str)) = false := by decide) :
    SimS P w K mg base S (.Raise (some (.Call (.Name c p) [a] [] pos)) none pos2) (sRaise c pn ma) := fun X W hX tk => by
  have h0 := hX
  obtain ⟨rfl, rfl, rfl, rfl, rfl, hN, hsc, hcm, hrm, htp, hfn, hps, hgd, hsu⟩ := hX
  refine PS.imp (ps_raise (by rw [← hcm]; exact hc) tk (pmk_x T' (hrm hc) (ha X W h0 tk) (show X.env.scope.names.lookup c = _ by rw [← hsc]; exact hg) hdb (he _))) fun D σ H ⟨ρ, st, env, rs, re, h⟩ => ⟨ρ, st, env, rs, re, PostS.bind h re fun ρ1 H1 st1 x v _ e1 rs1 rv p1 d hd => ?_⟩
  have ex : Ext ρ1 H1 ρ1 (upd H1 d (.xd [(pn, v)])) := .new hd
  refine p1 ρ1 _ σ (.ref C) (some d) ex (rs1.new hd) ((re.mono e1).mono ex) ⟨C, T'.gC, rfl, .inr ⟨d, [(pn, v)], rfl, upd_same, ?_⟩⟩
  exact ⟨v, [], rfl, rv.mono ex, rfl⟩
end
end Sm

/-! The Sim layer: the end: from a law's mirror to the law's walk. -/
namespace Sm
open PySem PySem.Calls PyProof.Rows L2
theorem sm_law_call {P : Program} {w : World} {K : PySem.W.Frag} {mg mb : Str → Option Value} {k : Nat} {fa a : Addr} {fd : FuncData} {x : Str} {m : Fx} {s₁ : Shared} {vs : List Value} {ns : List Int} {st' : Sto}
    (KX : K.In s₁.heap) (hns : s₁.heap.Ns mainGlobals mg) (hb : s₁.heap.Ns builtinsNs mb) (hbb : ∀ x : Str, x ≠ "__name__" → mb x = bootBuiltins x) (hlim : s₁.heap.NoLimit) (hg : s₁.gens = #[])
    (ha : s₁.heap.get? a = some { cls := .type "list", data := .seq vs.toArray }) (hi : IntsAre vs ns) (hl : ns.length ≤ sizeLine) (hr : Room k callerA)
    (F : ∀ base : Heap, K.In base → base.Ns mainGlobals mg → FnM P w K mg base k fa fd [x] m) (hbind : ∀ (s : Shared) (u : Value), BindsTo s fd ⟨[u], []⟩ [(x, u)])
    (hm : m [.scr ns] [] = .ok (.bl true) st') (hCX : ∀ H e s', L2.CX P w [] H s₁ (fun _ _ _ => False) e s' → False) :
    codeAny (model P w) callerA (.call (.ref fa) ⟨[.ref a], []⟩) (fun r s' => r = .ok (.ret (.bool true)) ∧ OldK s₁.heap s'.heap ∧ s'.os = s₁.os ∧ AllBare s'.gens) s₁ := by
  have rv := vals_ints hi
  have lenV := hi.length
  have core : ∀ H : Hp, Only H → SqF K H a (ns.map V.int) → HOk P w H s₁.heap → (∀ b, H b ≠ none → b = a) → (H a ≠ none → K.lookup a = none) →
      codeAny (model P w) callerA (.call (.ref fa) ⟨[.ref a], []⟩) (fun r s' => r = .ok (.ret (.bool true)) ∧ OldK s₁.heap s'.heap ∧ s'.os = s₁.os ∧ AllBare s'.gens) s₁ := by
    intro H hO hS hok hA hK
    have base_of : ∀ {b : Addr} {o : Obj}, s₁.heap.get? b = some o → H b = none → (hidT s₁.heap H).get? b = some o := fun e n => hidT_get e n
    have noA : ∀ {b : Addr} {o : Obj} {es : Array DictEntry} {ep : Nat}, s₁.heap.get? b = some o → o.data = .dict es ep → H b = none := fun {b o es ep} e d => by
      cases q : H b with
      | none => rfl
      | some u =>
        have e' : b = a := hA b (by rw [q]; simp)
        subst e'
        rw [ha] at e; cases e
        have d' : Data.seq vs.toArray _ = Data.dict es ep := d
        cases d'
    have nsK : ∀ {b : Addr} {m : Str → Option Value}, s₁.heap.Ns b m → (hidT s₁.heap H).Ns b m := fun {b m} ⟨o, es, ep, e, d, r⟩ => ⟨o, es, ep, base_of e (noA e d), d, r⟩
    have hKb : K.In (hidT s₁.heap H) := fun b o e => base_of (KX b o e) (by
      cases q : H b with
      | none => rfl
      | some u =>
        have e' : b = a := hA b (by rw [q]; simp)
        subst e'
        rw [hK (by rw [q]; simp)] at e; cases e)
    have hM : Mod K mg (hidT s₁.heap H) := ⟨hKb, nsK hns, ⟨mb, nsK hb, hbb⟩, let ⟨mc, h1, h2⟩ := hlim; ⟨mc, nsK h1, h2⟩⟩
    have e0 : Env0 P w K mg (hidT s₁.heap H) callerA [] s₁ H := ⟨rfl, hM, fun b o e => of_hidT e, Nat.le_of_eq (hidT_size _ _), trivial, fun b hb => absurd (show b ∈ ([] : List Addr) from hb) (by simp), hok, .of_eq hg⟩
    have sp : spM K mg 1 m [.ref a] H (fun v _ => v = .bl true) fun _ _ _ => False := by
      refine ⟨[], [], [.scr ns], ⟨rfl, List.nodup_nil, fun l b o h => by simp at h⟩, .cons (by rw [RV]; exact ⟨a, rfl, hS⟩) .nil, rfl, ?_⟩
      rw [hm]
      exact fun ρ' H' v _ _ r => by rw [RV] at r; exact r
    refine codeAny_mono ((F _ hKb (nsK hns)).run callerA [] s₁ H ⟨[.ref a], []⟩ [.ref a] [.ref a] _ _ rfl hr e0 (hbind s₁ (.ref a)) (.cons rfl .nil) sp) fun r s' h => ?_
    cases r with
    | error e => exact (hCX H e s' h).elim
    | ok fl =>
      cases fl with
      | next => exact False.elim h
      | brk => exact False.elim h
      | cont => exact False.elim h
      | ret u =>
        obtain ⟨v, H', os, bare, un, hok', r', q⟩ := h
        have q' : v = .bl true := q
        subst q'
        obtain rfl : u = Value.bool true := r'
        refine ⟨rfl, OldK.of_keep fun b o e => ?_, os, bare⟩
        cases q : H b with
        | none => exact un.keep b o e q (by intro z; exact absurd (show b ∈ ([] : List Addr) from z) (by simp)) (by simp)
        | some u =>
          rcases hO b with z | ⟨ob, xs, z⟩
          · rw [q] at z; cases z
          · have z2 := un.frzs b ob _ z
            obtain ⟨e1, _⟩ := hok b _ z
            obtain ⟨e2, _⟩ := hok' b _ z2
            rw [e] at e1; cases e1
            exact e2
  cases hk : K.lookup a with
  | some o =>
    have e := KX a o hk
    rw [ha] at e
    cases e
    refine core (fun _ => none) (fun _ => .inl rfl) (.inr ⟨_, vs.toArray, _, hk, rfl, rfl, rfl, by rw [List.size_toArray, lenV]; exact hl, by simpa using rv⟩) (fun b u z => by have z' : (none : Option HO) = some u := z; cases z') (fun b z => absurd rfl z) fun z => absurd rfl z
  | none =>
    refine core (fun b => if b = a then some (.frz { cls := .type "list", data := .seq vs.toArray } (.lst (ns.map V.int))) else none) (fun b => ?_) (.inl ⟨{ cls := .type "list", data := .seq vs.toArray }, if_pos rfl⟩) (fun b u z => ?_) (fun b z => ?_) fun _ => hk
    · by_cases hb : b = a
      · exact .inr ⟨_, _, if_pos hb⟩
      · exact .inl (if_neg hb)
    · by_cases hb : b = a
      · have z' := (if_pos hb).symm.trans z
        cases z'
        subst hb
        exact ⟨ha, by rw [List.length_map]; exact hl, vs, _, rv, ha⟩
      · have z' := (if_neg hb).symm.trans z
        cases z'
    · by_cases hb : b = a
      · exact hb
      · exact absurd (if_neg hb) z
/-- the walk that a law's head asks for, from its mirror -/
theorem sm_walk {l : PySem.W.OpenLaw} {n k : Nat} {q : Program} {loose : List Str} {XP : (Str → Option Value) → Heap → Prop} {YP : World → Heap → Prop} {d : DefRec} {K : Params → PySem.W.Frag} {x : Str} {m : Fx}
    (hn : l.most = some n) (hn2 : n ≤ sizeLine) (hdf : d.params.defaults = []) (hr : Room k callerA)
    (hY : ∀ (w : World) (h : Heap), YP w h → (K w.params).In h)
    (F : ∀ (w : World) (mg : Str → Option Value) (fa : Addr) (h : Heap), (K w.params).In h → h.Ns mainGlobals mg → mg d.name = some (.ref fa) →
      ∃ fd : FuncData, (∀ (s : Shared) (u : Value), BindsTo s fd ⟨[u], []⟩ [(x, u)]) ∧
        ∀ base : Heap, (K w.params).In base → base.Ns mainGlobals mg → FnM l.prog w (K w.params) mg base k fa fd [x] m)
    (hm : ∀ ns : List Int, ns.length ≤ n → (∀ z ∈ ns, Builtin.Int.intBits z ≤ 1048576) → ∃ st', m [.scr ns] [] = .ok (.bl true) st') :
    PySem.W.WalkO q loose XP YP l.row.toRowW d [] (fun f vs => PySem.call f vs) := by
  refine Att.attach_callB hn hdf fun w s₀ s₁ mg mb fa o pm cd doc a vs ns G Y ho hd hcd hmg hobj hints hlen hbits hg => ?_
  have KX := hY w _ Y
  obtain ⟨fd, hb, hF⟩ := F w mg fa _ KX G.T.g hmg
  obtain ⟨st', hm'⟩ := hm ns hlen hbits
  exact sm_law_call KX G.T.g G.T.b G.T.builtins G.T.nolimit hg hobj hints (Nat.le_trans hlen hn2) hr hF hb hm' fun H e s' z => by
    obtain ⟨_, _, _, _, _, _, _, _, _, _, _, _, z⟩ := z
    exact z
end Sm

/-! The Sim layer, part 13: defs and their calls, bundled. -/
namespace Sm
open PySem L2
/-- a way of calling: places, keywords, the order, the defaults -/
structure Shp where
  n : Nat
  ks : List Str
  ord : List (Nat ⊕ Nat)
  dvs : List Val
/-- what the top has written of a def -/
structure Df (K : PySem.W.Frag) (mg : Str → Option Value) (x : Str) (st : Stmt) (dvs : List V) : Prop where
  ex : ∃ (f : Addr) (oc : Value) (od : Option Addr) (dV kV doc pm : Value) (an : Option Addr) (cdv ct : Value) (osl : Array (Option Value)),
    mg x = some (.ref f) ∧ K.lookup f = some ⟨oc, od, .func (PySem.W.fnOf x x (defArgs st) (defBody st) (defScope st) dV kV doc pm an cdv ct), osl⟩ ∧ PySem.W.codeIn K cdv x = true ∧ PySem.W.keepIn K (.ref f) = true ∧ DflV K dV dvs
/-- a def that may be called -/
structure Cal (P : Program) (w : World) (K : PySem.W.Frag) (mg : Str → Option Value) (base : Heap) (k : Nat) (x : Str) (ps : List Str) (m : Fx) (sh : List Shp) : Prop where
  ex : ∃ (f : Addr) (fd : FuncData), FnM P w K mg base k f fd ps m ∧ mg x = some (.ref f) ∧ PySem.W.keepIn K (.ref f) = true ∧ ∀ p ∈ sh, BindsM K mg fd ps p.n p.ks p.ord p.dvs
section
variable {P : Program} {w : World} {K : PySem.W.Frag} {mg : Str → Option Value} {base : Heap} {S : Sc}
variable {e a b c : Expr} {es : List Expr} {ma mb mc : Ex} {aa ab : Ax} {pos pos' : Pos}
/-- a way of calling a def without defaults -/
def Way0 (x : Str) (st : Stmt) (ps : List Str) (p : Shp) : Prop := p.ord.length = ps.length ∧ p.dvs = [] ∧
  ∀ (kV doc pm : Value) (an : Option Addr) (cdv ct : Value) (us ws : List Value), us.length = p.n → ws.length = p.ks.length →
    bindArgs (PySem.W.fnOf x x (defArgs st) (defBody st) (defScope st) .none kV doc pm an cdv ct) ⟨us, p.ks.zip ws⟩ = pure (ps.zip (arr .none p.ord (us ++ ws) []))
/-- .. with n defaults -/
def Way1 (x : Str) (st : Stmt) (ps : List Str) (n : Nat) (p : Shp) : Prop := p.ord.length = ps.length ∧
  ∀ (T : Addr) (kV doc pm : Value) (an : Option Addr) (cdv ct : Value) (us ws its : List Value), us.length = p.n → ws.length = p.ks.length → its.length = n →
    ∃ k, bindArgs (PySem.W.fnOf x x (defArgs st) (defBody st) (defScope st) (.ref T) kV doc pm an cdv ct) ⟨us, p.ks.zip ws⟩ = seqItems? (.ref T) >>= k ∧ k (some its.toArray) = pure (ps.zip (arr .none p.ord (us ++ ws) its))
theorem cal0 {x : Str} {st : Stmt} {N ps : List Str} {k : Nat} {bd : Sx} {sh : List Shp} (D : Df K mg x st []) (F' : FnScope N ps (defScope st)) (h : SimSs P w K mg base { N := N, sc := defScope st, k := k } (defBody st) bd) (hw : ∀ p ∈ sh, Way0 x st ps p) :
    Cal P w K mg base (k + 1) x ps (runB N.length bd) sh := by
  obtain ⟨f, oc, od, dV, kV, doc, pm, an, cdv, ct, osl, h1, h2, h3, h4, h5⟩ := D.ex
  refine ⟨f, _, fn_sim h2 h3 F' h, h1, h4, fun p hp => ?_⟩
  obtain ⟨w1, w2, w3⟩ := hw p hp
  rcases h5 with ⟨_, rfl⟩ | ⟨z, _⟩
  · refine ⟨w1, [], [], .nil, fun ρ H => by rw [w2]; exact .nil, fun s us ws _ hu hk => .of_eq (w3 kV doc pm an cdv ct us ws hu hk)⟩
  · exact absurd rfl z
theorem cal1 {x : Str} {st : Stmt} {N ps : List Str} {k : Nat} {bd : Sx} {sh : List Shp} {dvs : List V} {dms : List Val} (D : Df K mg x st dvs) (hd : dvs ≠ []) (hr : ∀ ρ H, RVs K mg ρ H dms dvs) (F' : FnScope N ps (defScope st)) (h : SimSs P w K mg base { N := N, sc := defScope st, k := k } (defBody st) bd)
    (hw : ∀ p ∈ sh, Way1 x st ps dvs.length p ∧ p.dvs = dms) : Cal P w K mg base (k + 1) x ps (runB N.length bd) sh := by
  obtain ⟨f, oc, od, dV, kV, doc, pm, an, cdv, ct, osl, h1, h2, h3, h4, h5⟩ := D.ex
  refine ⟨f, _, fn_sim h2 h3 F' h, h1, h4, fun p hp => ?_⟩
  obtain ⟨⟨w1, w3⟩, w2⟩ := hw p hp
  rcases h5 with ⟨z, _⟩ | ⟨_, T, o, its, m, rfl, lT, oT, rT⟩
  · exact absurd z hd
  · refine ⟨w1, its, dvs, rT, fun ρ H => by rw [w2]; exact hr ρ H, fun s us ws X hu hk => ?_⟩
    obtain ⟨k, e1, e2⟩ := w3 T kV doc pm an cdv ct us ws its hu hk rT.length.symm
    refine BindsTo.of_looks fun M => ?_
    rw [e1]
    exact looks_items X lT oT (.of_pure e2)
theorem simE_cal {k : Nat} {ps : List Str} {m : Fx} {sh : List Shp} {x : Str} {p : Pos} {kws : List Keyword} {q : Shp} (hc : S.calm = true) (C : Cal P w K mg base k x ps m sh) (hq : q ∈ sh) (hk : k ≤ S.k) (hg : S.sc.names.lookup x = some .globalImplicit)
    (ha : SimC P w K mg base S es kws q.n q.ks aa) (hdb : (x == ("__debug__" : Str)) = false := by decide) :
    SimE P w K mg base S (.Call (.Name x p) es kws pos) (eCallF m q.ord q.dvs aa) := by
  obtain ⟨f, fd, F, h1, h2, h3⟩ := C.ex
  exact simE_callF hc F hk hg h1 h2 (h3 q hq) ha hdb
/-- a, b, c = x, y, z -/
def sPar3 (i j l : Nat) (a : Ax) : Sx := fun env st => (a env st).to env fun xs st1 => match xs with
  | [x, y, z] => .nx (((env.set i (some x)).set j (some y)).set l (some z)) st1
  | _ => .stuck
theorem simS_par3 {i j l : Nat} {x y z : Str} {px py pz pt : Pos} {kt k2 pt2} (hc : S.calm = true) (hN : S.N.Nodup) (hi : S.N[i]? = some x) (hj : S.N[j]? = some y) (hl : S.N[l]? = some z) (hij : i ≠ j) (hil : i ≠ l) (hjl : j ≠ l)
    (hx : S.sc.names.lookup x = some .local) (hy : S.sc.names.lookup y = some .local) (hz : S.sc.names.lookup z = some .local) (ha : SimA P w K mg base S [a, b, c] aa)
    (hw : ∀ env : PySem.Env, env.scope = S.sc → swappedStores [.Tuple [.Name x px, .Name y py, .Name z pz] kt pt] (.Tuple [a, b, c] k2 pt2) env = pure (some [x, y, z]))
    (hs : ∀ env, swapsWithSole [.Tuple [.Name x px, .Name y py, .Name z pz] kt pt] (.Tuple [a, b, c] k2 pt2) pos.line env = pure false) :
    SimS P w K mg base S (.Assign [.Tuple [.Name x px, .Name y py, .Name z pz] kt pt] (.Tuple [a, b, c] k2 pt2) pos) (sPar3 i j l aa) := fun X W hX tk =>
  PS.imp (ps_par3 (i := i) (j := j) (l := l) (by rw [← hX.calm]; exact hc) (by rw [← hX.N]; exact hN) (by rw [← hX.N]; exact hi) (by rw [← hX.N]; exact hj) (by rw [← hX.N]; exact hl) hij hil hjl (by rw [← hX.scope]; exact hx) (by rw [← hX.scope]; exact hy) (by rw [← hX.scope]; exact hz) (ha X W hX tk) (hw _ hX.scope.symm) (hs _)) fun D σ H ⟨ρ, st, env, rs, re, h⟩ =>
    ⟨ρ, st, env, rs, re, PostS.bind h re fun ρ1 H1 st1 xs vs _ e1 rs1 rvs p1 => by
      match xs, rvs, p1 with
      | [x1, x2, x3], rvs, p1 =>
        rw [RVs] at rvs
        obtain ⟨v1, r1, rfl, q1, rvs⟩ := rvs
        obtain ⟨v2, v3, rfl, q2, q3⟩ := rvs.two
        exact ⟨v1, v2, v3, rfl, p1 ρ1 H1 _ .refl rs1 ((((re.mono e1).set q1).set q2).set q3)⟩
      | [], _, p1 => exact p1.elim
      | [_], _, p1 => exact p1.elim
      | [_, _], _, p1 => exact p1.elim
      | _ :: _ :: _ :: _ :: _, _, p1 => exact p1.elim⟩
end
end Sm

/-! The Sim layer, part 14: names and short forms for what the generator prints. -/
namespace Sm
open PySem L2
abbrev oSub := oInt (fun i j => .int (i - j)) fun _ _ => true
abbrev oMod := oInt (fun i j => .int (i % j)) fun _ j => decide (0 < j)
abbrev oFdiv := oInt (fun i j => .int (i / j)) fun _ j => decide (0 < j ∧ j.natAbs.log2 < 9000)
abbrev oPow := oInt (fun i j => .int (i ^ j.toNat)) fun i j => decide (0 ≤ j ∧ j ≤ 1000000 ∧ i.natAbs < 2 ^ 64)
abbrev oShl := oInt (fun i j => .int (i * 2 ^ j.toNat)) fun i j => decide (0 ≤ j ∧ (Builtin.Int.intBits i : Int) + j ≤ 2 ^ 27)
abbrev oShr := oInt (fun i j => .int (i / 2 ^ j.toNat)) fun _ j => decide (0 ≤ j)
abbrev oAnd := oInt (fun i j => .int (Builtin.bitAnd i j)) fun _ _ => true
abbrev oOr := oInt (fun i j => .int (Builtin.bitOr i j)) fun _ _ => true
abbrev oXor := oInt (fun i j => .int (Builtin.bitXor i j)) fun _ _ => true
abbrev oLt := oInt (fun i j => .bl (decide (i < j))) fun _ _ => true
abbrev oLe := oInt (fun i j => .bl (decide (i ≤ j))) fun _ _ => true
abbrev oGt := oInt (fun i j => .bl (decide (j < i))) fun _ _ => true
abbrev oGe := oInt (fun i j => .bl (decide (j ≤ i))) fun _ _ => true
abbrev oIAdd := oInt (fun i j => .int (i + j)) fun _ _ => true
def GTup (K : PySem.W.Frag) (mg : Str → Option Value) (x : Str) (xs : List Val) : Prop := ∃ a vs, mg x = some (.ref a) ∧ SqK K a vs ∧ ∀ ρ H, RVs K mg ρ H xs vs
def XcOk (P : Program) (K : PySem.W.Frag) (mg : Str → Option Value) (c pn : Str) : Prop := ∃ C T fI cc, ExTxt P K mg c pn C T fI cc
section
variable {P : Program} {w : World} {K : PySem.W.Frag} {mg : Str → Option Value} {base : Heap} {S : Sc}
variable {e a b c : Expr} {es : List Expr} {ma mb mc : Ex} {aa ab : Ax} {pos pos' : Pos}
theorem simE_gint {x : Str} {v : Int} (hg : S.sc.names.lookup x = some .globalImplicit) (h : ∃ t, mg x = some (.int v t)) (hd : (x == ("__debug__" : Str)) = false := by decide) : SimE P w K mg base S (.Name x pos) (eC (.int v)) := by
  obtain ⟨t, h⟩ := h
  exact simE_glob hg h (v := .int v) ⟨t, rfl⟩ (fun _ _ => rvi) hd
theorem simE_gtup {x : Str} {xs : List Val} (hg : S.sc.names.lookup x = some .globalImplicit) (h : GTup K mg x xs) (hd : (x == ("__debug__" : Str)) = false := by decide) : SimE P w K mg base S (.Name x pos) (eC (.kt xs)) := by
  obtain ⟨a, vs, h1, h2, h3⟩ := h
  exact simE_glob hg h1 (v := .ref a) rfl (fun ρ H => by rw [RV]; exact ⟨a, vs, rfl, h2, h3 ρ H⟩) hd
theorem simS_raiseX {a : Expr} {ma : Ex} {p pos pos2 : Pos} {c pn : Str} (hc : S.calm = true) (h : XcOk P K mg c pn) (hg : S.sc.names.lookup c = some .globalImplicit) (ha : SimE P w K mg base S a ma)
    (he : ∀ env, starEach (a :: []) env = (false, eval a env) :: starEach [] env) (hdb : (c == ("__debug__" : Str)) = false := by decide) :
    SimS P w K mg base S (.Raise (some (.Call (.Name c p) [a] [] pos)) none pos2) (sRaise c pn ma) := by
  obtain ⟨C, T, fI, cc, h⟩ := h
  exact simS_raise hc h hg ha he hdb
theorem simHs_cons {x : Str} {b₀ : Stmt} {suite : List Stmt} {np pos' : Pos} {hds : List ExceptHandler} {l : List Cl} {s : Sx} (hm : ∃ D, mg x = some (.ref D)) (hg : S.sc.names.lookup x = some .globalImplicit)
    (hs : SimSs P w K mg base { S with calm := false, top := false, xi := none } (b₀ :: suite) s) (r : SimHs P w K mg base S hds l) (hd : (x == ("__debug__" : Str)) = false := by decide) : SimHs P w K mg base S (.ExceptHandler (some (.Name x np)) none (b₀ :: suite) pos' :: hds) (⟨x, none, s⟩ :: l) := by
  obtain ⟨D, hm⟩ := hm
  exact .cons hg hd hm hs r
theorem simS_tryAsX {x n : Str} {i : Nat} {b₀ : Stmt} {body suite : List Stmt} {np pos' : Pos} {sb ss : Sx} {exm : Str → Str → Option Bool} (hx : ExmOk K mg exm) (hm : ∃ D, mg x = some (.ref D)) (htop : S.top = true) (hxi : S.xi = none) (hN : S.N.Nodup) (hi : S.N[i]? = some n) (hn : S.sc.names.lookup n = some .local)
    (hg : S.sc.names.lookup x = some .globalImplicit) (hb : SimSs P w K mg base S body sb) (hs : ∀ a cls d, SimSs P w K mg base { S with calm := false, top := false, xi := some ⟨i, a, cls, d⟩ } (b₀ :: suite) ss) (hd : (x == ("__debug__" : Str)) = false := by decide) :
    SimS P w K mg base S (.Try body [.ExceptHandler (some (.Name x np)) (some n) (b₀ :: suite) pos'] [] [] pos) (sTry exm sb [⟨x, some i, ss⟩]) := by
  obtain ⟨D, hm⟩ := hm
  exact simS_tryAs hx htop hxi hN hi hn hg hd hm hb hs
theorem simE_xisX {isx : Str → Str → Option Bool} {ξ : XI} {n t : Str} {np tp p : Pos} (hx : IsxOk K mg isx) (hmt : ∃ D, mg t = some (.ref D)) (hm : mg "isinstance" = none) (hxi : S.xi = some ξ) (hN : S.N[ξ.i]? = some n) (hv : Vis S.sc n) (hg : S.sc.names.lookup ("isinstance" : Str) = some .globalImplicit) (hgt : S.sc.names.lookup t = some .globalImplicit)
    (hdt : (t == ("__debug__" : Str)) = false := by decide) (hd : (n == ("__debug__" : Str)) = false := by decide) (hcd : (n == ("__classdict__" : Str)) = false := by decide) :
    SimE P w K mg base S (.Call (.Name "isinstance" p) [.Name n np, .Name t tp] [] pos) (eXis isx ξ.i t) := by
  obtain ⟨D, hmt⟩ := hmt
  exact simE_xis hx hxi hN hv hg hm hgt hmt hdt hd hcd
theorem ways_nil {p : Shp → Prop} : ∀ q ∈ ([] : List Shp), p q := fun _ h => nomatch h
theorem ways_cons {p : Shp → Prop} {q : Shp} {l : List Shp} (h : p q) (r : ∀ q ∈ l, p q) : ∀ z ∈ q :: l, p z := fun z hz => by
  rcases List.mem_cons.mp hz with e | hz
  · subst e; exact h
  · exact r z hz
theorem all_nil {α : Type} {p : α → Prop} : ∀ q ∈ ([] : List α), p q := fun _ h => nomatch h
theorem all_cons {α : Type} {p : α → Prop} {q : α} {l : List α} (h : p q) (r : ∀ q ∈ l, p q) : ∀ z ∈ q :: l, p z := fun z hz => by
  rcases List.mem_cons.mp hz with e | hz
  · subst e; exact h
  · exact r z hz
theorem along_of {K : PySem.W.Frag} {t : Addr} {cv : Value} {dd : Option Addr} {cd : ClassData} {sl : Array (Option Value)} {l : List Value} {name : Str} {r : Option Value} (h : K.lookup t = some ⟨cv, dd, .cls cd, sl⟩) (hm : cd.mro = l) (hf : PySem.W.findIn K (.ref t) name = some r) : PySem.W.alongIn K name l = some r := by
  unfold PySem.W.findIn at hf
  simp only [h] at hf
  rw [← hm]
  exact hf
theorem exm_of {K : PySem.W.Frag} {C D : Addr} {b : Bool} (h1 : PySem.W.subIn K (.ref D) (.type "BaseException") = some true) (h2 : PySem.W.isClsIn K D = true) (h3 : PySem.W.typeIn K (.ref D) = some (.type "type")) (h4 : PySem.W.subIn K (.ref C) (.ref D) = some b) : PySem.W.exmOne K (.ref C) (.ref D) = some b := by
  have h2' : (PySem.W.clsIn K D).isSome = true := h2
  unfold PySem.W.exmOne PySem.W.kitCls
  simp only [h1, h2', h3]
  exact h4
theorem kit_ofC {K : PySem.W.Frag} {C D : Addr} {b : Bool} (h2 : PySem.W.isClsIn K D = true) (h3 : PySem.W.typeIn K (.ref D) = some (.type "type")) (h4 : PySem.W.subIn K (.ref C) (.ref D) = some b) (h5 : (Value.ref C == Value.ref D) = true → b = true) : PySem.W.kitOne K (.ref C) (.ref D) = some b := by
  have h2' : (PySem.W.clsIn K D).isSome = true := h2
  unfold PySem.W.kitOne PySem.W.kitCls
  cases q : (Value.ref C == Value.ref D) with
  | true => rw [h5 q]; rfl
  | false =>
    simp only [h2', h3]
    exact h4
/-- a table of pairs -/
def pairs (l : List ((Str × Str) × Bool)) : Str → Str → Option Bool := fun x c => l.lookup (x, c)
theorem exmOk_of {l : List ((Str × Str) × Bool)} (h : ∀ p ∈ l, ∀ C D, mg p.1.1 = some (.ref C) → mg p.1.2 = some (.ref D) → PySem.W.exmOne K (.ref C) (.ref D) = some p.2) : ExmOk K mg (pairs l) := fun x c b C D e h1 h2 => by
  have : ∀ (l : List ((Str × Str) × Bool)), l.lookup (x, c) = some b → ((x, c), b) ∈ l := by
    intro l
    induction l with
    | nil => intro z; cases z
    | cons q r ih =>
      intro z
      obtain ⟨k, y⟩ := q
      rw [List.lookup_cons] at z
      cases hk : ((x, c) == k) with
      | true => rw [hk] at z; cases z; rw [beq_iff_eq.mp hk]; exact List.mem_cons_self
      | false => rw [hk] at z; exact List.mem_cons_of_mem _ (ih z)
  exact h _ (this l e) C D h1 h2
theorem isxOk_of {l : List ((Str × Str) × Bool)} (h : ∀ p ∈ l, ∀ C D, mg p.1.1 = some (.ref C) → mg p.1.2 = some (.ref D) → IsxC K C ∧ PySem.W.kitOne K (.ref C) (.ref D) = some p.2) : IsxOk K mg (pairs l) := fun x c b C D e h1 h2 => by
  have : ∀ (l : List ((Str × Str) × Bool)), l.lookup (x, c) = some b → ((x, c), b) ∈ l := by
    intro l
    induction l with
    | nil => intro z; cases z
    | cons q r ih =>
      intro z
      obtain ⟨k, y⟩ := q
      rw [List.lookup_cons] at z
      cases hk : ((x, c) == k) with
      | true => rw [hk] at z; cases z; rw [beq_iff_eq.mp hk]; exact List.mem_cons_self
      | false => rw [hk] at z; exact List.mem_cons_of_mem _ (ih z)
  exact h _ (this l e) C D h1 h2
def xfs (l : List (Str × Str)) : Str → Str → Bool := fun c f => l.contains (c, f)
theorem xfOk_of {l : List (Str × Str)} (h : ∀ p ∈ l, ∀ C, mg p.1 = some (.ref C) → XfC K C ∧ PySem.W.findIn K (.ref C) p.2 = some none) : XfOk K mg (xfs l) := fun c f C e h1 => h (c, f) (List.contains_iff_mem.mp e) C h1
theorem simT_chain {o o' : Val → Val → Sto → R Val} {op op' : CmpOp} (ho : OpOk P w K mg base S (compareOp op) o) (ho' : OpOk P w K mg base S (compareOp op') o') (ha : SimE P w K mg base S a ma) (hb : SimE P w K mg base S b mb) (hc : SimE P w K mg base S c mc)
    (hm : lastMarks [op, op'] [b, c] = false) : SimT P w K mg base S (.Compare a [op, op'] [b, c] pos) (tVal (eChain o o' ma mb mc)) := fun X W hX tk => by
  obtain ⟨r, h1, h2⟩ := ho X hX
  obtain ⟨r', h1', h2'⟩ := ho' X hX
  refine PT.imp (pt_chain h1 h1' (ha X W hX tk) (hb X W hX tk) (hc X W hX tk) hm) fun σ H Q0 ⟨ρ, st, env, rs, re, h0⟩ => ?_
  have h : PostE K mg W ρ H σ (fun x H' => ∃ k, x = .bl k ∧ Q0 k H') (eChain o o' ma mb mc env st) := Post.bind h0 fun ρ1 H1 st1 x v _ e1 rs1 rv p1 => blOf rs1 rv p1
  refine ⟨ρ, st, env, rs, re, Post.bind h fun ρ1 H1 st1 x v _ e1 rs1 rv p1 => ?_⟩
  refine ⟨ρ1, st1, env, rs1, re.mono e1, Post.bind p1 fun ρ2 H2 st2 y u _ e2 rs2 ru p2 => ?_⟩
  refine h2 ρ2 H2 st2 x y v u W σ _ rs2 (rv.mono e2) ru (Post.bind p2 fun ρ3 H3 st3 z k _ e3 rs3 rz p3 => ?_)
  cases z with
  | bl q =>
    rw [RV] at rz
    cases q with
    | true => exact ⟨true, rz, by rw [if_pos rfl]; exact ⟨ρ3, st3, env, rs3, ((re.mono e1).mono e2).mono e3, Post.bind p3 fun ρ4 H4 st4 z2 k2 _ e4 rs4 rz2 p4 => h2' ρ4 H4 st4 y z2 u k2 W σ _ rs4 ((ru.mono e3).mono e4) rz2 p4⟩⟩
    | false => exact ⟨false, rz, by rw [if_neg (by simp)]; exact p3 ρ3 H3 _ .refl rs3 (by rw [RV])⟩
  | _ => exact p3.elim
end
end Sm

/-! The Sim layer, part X1: in a tuple, all, a written dict of defs, calls of a def that a name holds. -/
namespace Sm
open PySem L2 PySem.Spec PyProof.Rows
section
variable {X : Cx}
def rInT (K : PySem.W.Frag) (neg : Bool) : R2 := fun x y H Q => ∃ d ds, Dp K H x d ∧ Dp K H y (.tuple ds) ∧ SeqAt.shaped d = true ∧ SeqAt.shaped (.tuple ds) = true ∧ Q (.bl (if neg then !(ds.any fun z => PyData.eqv z d) else ds.any fun z => PyData.eqv z d)) H
theorem room_inT {A : Around} {ds : List PyData} {d : PyData} (sd : SeqAt.shaped d = true) (hu : A.units + 65 < cLine) : A.units + 1 + min (PyData.depthAll ds) d.depth < cLine := room_in_shaped (xs := ds) sd hu
theorem op_inT (hu : X.A.units + 65 < cLine) : OpR X (compareOp .In) (rInT X.K false) := by
  intro pins s σ H x y v u Q I rx ry h
  obtain ⟨d, ds, hd, he, sd, se, q⟩ := h
  obtain ⟨as, r1⟩ := Dp.reads I d x v hd rx
  obtain ⟨bs, r2⟩ := Dp.reads I (.tuple ds) y u he ry
  exact SeqAt.in_tuple_reads r2 r1 (SeqAt.canLay_of_shaped se) (SeqAt.canLay_of_shaped sd) (room_inT sd hu) ⟨.bl _, H, I, rfl, q⟩
theorem op_notInT (hu : X.A.units + 65 < cLine) : OpR X (compareOp .NotIn) (rInT X.K true) := by
  intro pins s σ H x y v u Q I rx ry h
  obtain ⟨d, ds, hd, he, sd, se, q⟩ := h
  obtain ⟨as, r1⟩ := Dp.reads I d x v hd rx
  obtain ⟨bs, r2⟩ := Dp.reads I (.tuple ds) y u he ry
  exact SeqAt.notIn_tuple_reads r2 r1 (SeqAt.canLay_of_shaped se) (SeqAt.canLay_of_shaped sd) (room_inT sd hu) ⟨.bl _, H, I, rfl, q⟩
/-- all of a list of bools -/
def rAllB (K : PySem.W.Frag) : List V → Hp → VK → Prop := fun xs H Q => ∃ (a : Addr) (bs : List Bool), xs = [.ref a] ∧ SqL K H a (bs.map V.bl) ∧ Q (.bl (bs.all id)) H
theorem vals_bools : ∀ {bs : List Bool} {us : List Value}, Vals (bs.map V.bl) us → us = bs.map Value.bool
  | [], us, h => by cases h; rfl
  | b :: bs, us, h => by
    cases h with
    | cons r t => cases r; rw [vals_bools t]; rfl
theorem reads_bools {h : Heap} : ∀ (bs : List Bool), ∃ as, ReadsAll h (bs.map Value.bool) (bs.map PyData.bool) as
  | [] => ⟨_, ReadsAll.nil⟩
  | b :: bs => by
    obtain ⟨as, r⟩ := reads_bools (h := h) bs
    exact ⟨_, ReadsAll.cons (Reads.bool b) r⟩
theorem plain_bools : ∀ bs : List Bool, PyData.plainAll (bs.map PyData.bool) = true
  | [] => by simp [PyData.plainAll]
  | b :: bs => by simp [PyData.plainAll, PyData.plain, plain_bools bs]
theorem all_bools : ∀ bs : List Bool, (bs.map PyData.bool).all PyData.truthy = bs.all id
  | [] => rfl
  | b :: bs => by
    simp only [List.map_cons, List.all_cons, all_bools bs]
    cases b <;> rfl
theorem call_allB (hc : X.calm = true) : CallR X (.builtin "all") (rAllB X.K) := by
  intro pins s σ H xs us Q I rv h
  obtain ⟨a, bs, rfl, hs, q⟩ := h
  cases rv with
  | cons r t =>
    cases t
    cases r
    obtain ⟨its, r2, pl, hz⟩ := I.list hs
    have hl : s.heap.IsList a its.toArray := by
      obtain ⟨o, m, e, c, d, q⟩ := pl
      exact ⟨o, e, c, m, q⟩
    have e := vals_bools r2
    subst e
    obtain ⟨as, ra⟩ := reads_bools (h := s.heap) bs
    refine PySem.W.all_list_data (I.ok.hd hc) hl ra (plain_bools bs) (fun x hx => ?_) fun h' tk hk => ?_
    · obtain ⟨b, _, rfl⟩ := List.mem_map.mp hx
      exact trivial
    · rw [all_bools]
      exact ⟨.bl _, H, I.kept hk, rfl, q⟩
end
section
variable {P : Program} {w : World} {K : PySem.W.Frag} {mg : Str → Option Value} {base : Heap} {S : Sc}
variable {e a b c : Expr} {es : List Expr} {ma mb mc : Ex} {aa ab : Ax} {pos pos' : Pos}
variable {ρ ρ' : List Addr} {H H' : Hp} {W : WX} {σ : L2.St} {st : Sto} {xi : Option XI} {env : Env} {Q : VK}
/-- in a tuple -/
def oInT (neg : Bool) : Val → Val → Sto → R Val := fun x y st => match pd st deep x, pd st deep y with
  | some d, some (.tuple ds) => if SeqAt.shaped d && SeqAt.shaped (.tuple ds) then .ok (.bl (if neg then !(ds.any fun z => PyData.eqv z d) else ds.any fun z => PyData.eqv z d)) st else .stuck
  | _, _ => .stuck
theorem oInT_reads {neg : Bool} {x y : Val} {v u : V} (rs : RS K mg ρ H st) (rv : RV K mg ρ H x v) (ru : RV K mg ρ H y u) (p : PostE K mg W ρ H σ Q (oInT neg x y st)) : rInT K neg v u H Q := by
  unfold oInT at p
  split at p
  · rename_i d ds hd he
    split at p
    · rename_i hs
      obtain ⟨s1, s2⟩ := Bool.and_eq_true_iff.mp hs
      exact ⟨d, ds, dp_of rs _ _ _ _ hd rv, dp_of rs _ _ _ _ he ru, s1, s2, p ρ H _ .refl rs rvb⟩
    · exact p.elim
  · exact p.elim
theorem ok_inT (hc : S.calm = true) : OpOk P w K mg base S (compareOp .In) (oInT false) := fun X hX => by
  have eK := hX.K
  subst eK
  exact ⟨_, op_inT (by have := (hX.room hc).un; omega), fun ρ H st x y v u W σ Q rs rv ru p => oInT_reads rs rv ru p⟩
theorem ok_notinT (hc : S.calm = true) : OpOk P w K mg base S (compareOp .NotIn) (oInT true) := fun X hX => by
  have eK := hX.K
  subst eK
  exact ⟨_, op_notInT (by have := (hX.room hc).un; omega), fun ρ H st x y v u W σ Q rs rv ru p => oInT_reads rs rv ru p⟩
/-- the bools of a list -/
def bls : List Val → Option (List Bool)
  | [] => some []
  | .bl b :: r => (bls r).map (b :: ·)
  | _ :: _ => none
theorem bls_ok : ∀ {xs : List Val} {bs : List Bool} {vs : List V}, bls xs = some bs → RVs K mg ρ H xs vs → vs = bs.map V.bl
  | [], bs, vs, h, r => by
    rw [RVs] at r
    cases h
    exact r
  | x :: xs, bs, vs, h, r => by
    rw [RVs] at r
    obtain ⟨v, t, rfl, h1, h2⟩ := r
    cases x with
    | bl b =>
      simp only [bls, Option.map_eq_some_iff] at h
      obtain ⟨cs, hb, rfl⟩ := h
      rw [RV] at h1
      subst h1
      rw [bls_ok hb h2]
      rfl
    | _ => cases h
def oAll : Val → Sto → R Val := fun x st => match lstOf st x with
  | some xs => match bls xs with
    | some bs => .ok (.bl (bs.all id)) st
    | none => .stuck
  | none => .stuck
theorem ok_all (hc : S.calm = true) : ClOk P w K mg base S (.builtin "all") (one' oAll) := .one fun X hX => by
  have eK := hX.K
  subst eK
  refine ⟨_, call_allB (by rw [← hX.calm]; exact hc), fun ρ H st x v W σ Q rs rv p => ?_⟩
  unfold oAll at p
  cases q : lstOf st x with
  | none => simp only [q] at p; exact p.elim
  | some xs =>
    simp only [q] at p
    cases q2 : bls xs with
    | none => simp only [q2] at p; exact p.elim
    | some bs =>
      simp only [q2] at p
      obtain ⟨a, vs, rfl, h1, h2⟩ := lstOf_ok rs q rv
      have e := bls_ok q2 h2
      subst e
      exact ⟨a, bs, rfl, h1, p ρ H _ .refl rs rvb⟩
/-! ### a written dict whose keys are texts and whose values are defs -/
/-- x stands for a dict that tells, for each text, the def of the name -/
structure GDic (K : PySem.W.Frag) (w : World) (mg : Str → Option Value) (x : Str) (tbl : List (Str × Str)) : Prop where
  ex : ∃ d es n, mg x = some (.ref d) ∧ KDict K w d es n ∧ (∀ z, tbl.lookup z = none → PySem.W.nsIn K d z = some none) ∧ ∀ p ∈ tbl, ∃ f, mg p.2 = some (.ref f) ∧ PySem.W.nsIn K d p.1 = some (some (.ref f))
theorem GDic.look {x : Str} {tbl : List (Str × Str)} (G : GDic K w mg x tbl) : ∃ d es n, mg x = some (.ref d) ∧ KDict K w d es n ∧ ∀ z, ∃ r : Option Value, PySem.W.nsIn K d z = some r ∧ r.isSome = (tbl.lookup z).isSome ∧ ∀ f, tbl.lookup z = some f → ∃ a, mg f = some (.ref a) ∧ r = some (.ref a) := by
  obtain ⟨d, es, n, h1, h2, h3, h4⟩ := G.ex
  refine ⟨d, es, n, h1, h2, fun z => ?_⟩
  cases q : tbl.lookup z with
  | none => exact ⟨none, h3 z q, rfl, fun f e => by cases e⟩
  | some f =>
    obtain ⟨k', e, hm⟩ := lookup_mem q
    obtain ⟨a, e1, e2⟩ := h4 _ hm
    simp only at e1 e2
    subst e
    exact ⟨_, e2, rfl, fun g eg => by cases eg; exact ⟨a, e1, rfl⟩⟩
/-- key in x, for a written dict x -/
def oGIn (T : Str → Option (List (Str × Str))) (neg : Bool) : Val → Val → Sto → R Val := fun a b st => match a, b with
  | .str z, .cl x => match T x with
    | some tbl => .ok (.bl (if neg then !(tbl.lookup z).isSome else (tbl.lookup z).isSome)) st
    | none => .stuck
  | _, _ => .stuck
/-- x[key] -/
def oGIx (T : Str → Option (List (Str × Str))) : Val → Val → Sto → R Val := fun a b st => match a, b with
  | .cl x, .str z => match T x with
    | some tbl => match tbl.lookup z with
      | some f => .ok (.fn f) st
      | none => .stuck
    | none => .stuck
  | _, _ => .stuck
def GDics (K : PySem.W.Frag) (w : World) (mg : Str → Option Value) (T : Str → Option (List (Str × Str))) : Prop := ∀ x tbl, T x = some tbl → GDic K w mg x tbl
theorem simE_gdic {x : Str} {tbl : List (Str × Str)} (G : GDic K w mg x tbl) (hg : S.sc.names.lookup x = some .globalImplicit) (hd : (x == ("__debug__" : Str)) = false := by decide) : SimE P w K mg base S (.Name x pos) (eC (.cl x)) := by
  obtain ⟨d, es, n, h1, _⟩ := G.ex
  exact simE_glob hg h1 (v := .ref d) rfl (fun ρ H => by rw [RV]; exact ⟨d, rfl, h1⟩) hd
def rGIn (K : PySem.W.Frag) (w : World) (neg : Bool) : R2 := fun x y H Q => ∃ d es n z, ∃ r : Option Value, KDict K w d es n ∧ x = .str z ∧ y = .ref d ∧ PySem.W.nsIn K d z = some r ∧ Q (.bl (if neg then !r.isSome else r.isSome)) H
theorem op_gin {X : Cx} : OpR X (compareOp .In) (rGIn X.K X.w false) := by
  intro pins s σ H x y v u Q I rx ry h
  obtain ⟨d, es, n, z, r, D, e1, e2, e3, q⟩ := h
  exact op_in_kd D pins s σ H x y v u Q I rx ry ⟨z, r, e1, e2, e3, q⟩
theorem op_gnotin {X : Cx} : OpR X (compareOp .NotIn) (rGIn X.K X.w true) := by
  intro pins s σ H x y v u Q I rx ry h
  obtain ⟨d, es, n, z, r, D, e1, e2, e3, q⟩ := h
  exact op_notIn_kd D pins s σ H x y v u Q I rx ry ⟨z, r, e1, e2, e3, q⟩
theorem oGIn_reads {T : Str → Option (List (Str × Str))} {neg : Bool} {x y : Val} {v u : V} (G : GDics K w mg T) (rs : RS K mg ρ H st) (rv : RV K mg ρ H x v) (ru : RV K mg ρ H y u) (p : PostE K mg W ρ H σ Q (oGIn T neg x y st)) : rGIn K w neg v u H Q := by
  unfold oGIn at p
  split at p
  · rename_i z x
    split at p
    · rename_i tbl ht
      obtain ⟨d, es, n, h1, D, h3⟩ := (G x tbl ht).look
      obtain ⟨r, e1, e2, _⟩ := h3 z
      rw [RV] at rv
      rw [RV] at ru
      obtain ⟨a, rfl, ha⟩ := ru
      rw [h1] at ha
      cases ha
      rw [← e2] at p
      exact ⟨d, es, n, z, r, D, rv, rfl, e1, p ρ H _ .refl rs rvb⟩
    · exact p.elim
  · exact p.elim
theorem ok_gin {T : Str → Option (List (Str × Str))} (G : GDics K w mg T) : OpOk P w K mg base S (compareOp .In) (oGIn T false) := fun X hX => by
  obtain ⟨rfl, rfl, rfl, rfl, rfl, _⟩ := hX
  exact ⟨_, op_gin, fun ρ H st x y v u W σ Q rs rv ru p => oGIn_reads G rs rv ru p⟩
theorem ok_gnotin {T : Str → Option (List (Str × Str))} (G : GDics K w mg T) : OpOk P w K mg base S (compareOp .NotIn) (oGIn T true) := fun X hX => by
  obtain ⟨rfl, rfl, rfl, rfl, rfl, _⟩ := hX
  exact ⟨_, op_gnotin, fun ρ H st x y v u W σ Q rs rv ru p => oGIn_reads G rs rv ru p⟩
theorem ok_gix {T : Str → Option (List (Str × Str))} (G : GDics K w mg T) : IxOk P w K mg base S (oGIx T) := fun X hX => by
  obtain ⟨rfl, rfl, rfl, rfl, rfl, _⟩ := hX
  refine ⟨_, ix_kdict, fun ρ H st x y v u W σ Q rs rv ru p => ?_⟩
  unfold oGIx at p
  split at p
  · rename_i x z
    split at p
    · rename_i tbl ht
      split at p
      · rename_i f hf
        obtain ⟨d, es, n, h1, D, h3⟩ := (G x tbl ht).look
        obtain ⟨r, e1, _, e2⟩ := h3 z
        obtain ⟨a, e3, e4⟩ := e2 f hf
        rw [RV] at rv
        rw [RV] at ru
        obtain ⟨b, rfl, ha⟩ := rv
        rw [h1] at ha
        cases ha
        subst e4
        exact ⟨d, z, .ref a, rfl, ru, ⟨es, n, _, D.at_, D.lit, e1, rfl⟩, p ρ H _ .refl rs (by rw [RV]; exact ⟨a, rfl, e3⟩)⟩
      · exact p.elim
    · exact p.elim
  · exact p.elim
/-! ### a call of a def that a name holds -/
/-- the defs that may be held, each with its mirror -/
abbrev FTab := List (Str × Fx)
def eCallV (T : FTab) (i : Nat) (aa : Ax) : Ex := fun env st => match env[i]? with
  | some (some (.fn f)) => match T.lookup f with
    | some m => (aa env st).bind fun xs st1 => m xs st1
    | none => .stuck
  | _ => .stuck
/-- called with n values by place -/
structure HeldM (P : Program) (w : World) (K : PySem.W.Frag) (mg : Str → Option Value) (base : Heap) (k n : Nat) (x : Str) (m : Fx) : Prop where
  ex : ∃ (j : Nat) (ps : List Str) (q : Shp) (sh : List Shp), j ≤ k ∧ Cal P w K mg base j x ps m sh ∧ q ∈ sh ∧ q.n = n ∧ q.ks = [] ∧ q.dvs = [] ∧ q.ord = (List.range n).map .inl
theorem arr_id {α : Type} (z : α) (xs : List α) : arr z ((List.range xs.length).map .inl) xs [] = xs := by
  unfold arr
  rw [List.map_map]
  apply List.ext_getElem?
  intro i
  by_cases h : i < xs.length
  · simp [h, List.getD]
  · simp [h, List.getElem?_eq_none (Nat.le_of_not_lt h)]
theorem simE_callV {T : FTab} {i n : Nat} {x : Str} {p : Pos} (hc : S.calm = true) (hT : ∀ q ∈ T, HeldM P w K mg base S.k n q.1 q.2) (hN : S.N[i]? = some x) (hv : Vis S.sc x) (ha : SimC P w K mg base S es [] n [] aa) (hl : ALen aa n)
    (hdb : (x == ("__debug__" : Str)) = false := by decide) (hcd : (x == ("__classdict__" : Str)) = false := by decide) :
    SimE P w K mg base S (.Call (.Name x p) es [] pos) (eCallV T i aa) := fun X W hX tk => by
  obtain ⟨rfl, rfl, rfl, rfl, rfl, hNN, hsc, hcm, hrm, htp, hfn, hps, hgd, hsu⟩ := hX
  have hX : XOk X.prog X.w X.K X.mg X.base S X := ⟨rfl, rfl, rfl, rfl, rfl, hNN, hsc, hcm, hrm, htp, hfn, hps, hgd, hsu⟩
  refine ⟨fun pins s σ H Q I h => ?_⟩
  obtain ⟨ρ, st, env, rs, re, h⟩ := h
  unfold eCallV at h
  split at h
  · rename_i f hf
    split at h
    · rename_i m hm
      obtain ⟨k', e, hmem⟩ := lookup_mem hm
      obtain ⟨j, ps, q, sh, hj, C, hq, q1, q2, q3, q4⟩ := (hT _ hmem).ex
      simp only at C
      subst e
      obtain ⟨a, fd, F, h1, h2, h3⟩ := C.ex
      have hbb := h3 q hq
      rw [q1, q2, q3, q4] at hbb
      obtain ⟨hol, ds, dv, hv', hd, hbb⟩ := hbb
      have ezd := (hd ρ H).length
      have edv : dv = [] := List.length_eq_zero_iff.mp ezd
      subst edv
      cases hv'
      obtain ⟨u0, h4, h5⟩ := re.2.1 i (.fn _) hf (fun _ _ => by nofun)
      rw [RV] at h5
      obtain ⟨a', rfl, h6⟩ := h5
      rw [h1] at h6
      cases h6
      refine wpAny_Call_Name_kw (thn ((pe_var (pos := p) (by rw [← hNN]; exact hN) (by rw [← hsc]; exact hv) hdb hcd).run pins s σ H (fun v H1 => v = .ref a ∧ H1 = H) I ⟨.ref a, h4, rfl, rfl⟩) fun u s1 ⟨v, H1, I1, r1, q1⟩ => ?_)
      obtain ⟨rfl, rfl⟩ := q1
      cases r1
      refine ha X W hX tk pos (.ref a) [] pins s1 σ H1 (fun vs H1 => ∃ ρ1 st1 xs, RS X.K X.mg ρ1 H1 st1 ∧ RVs X.K X.mg ρ1 H1 xs vs ∧ xs.length = n ∧ PostE X.K X.mg W ρ1 H1 σ Q (m xs st1)) _ h2 I1
        ⟨ρ, st, env, rs, re, Post.bind h fun ρ1 H1 st1 xs vs hok e1 rs1 rvs p1 => ⟨ρ1, st1, xs, rs1, rvs, hl _ _ _ _ hok, p1⟩⟩ fun s1 us ws vs H1 I1 r l1 l2 ⟨ρ1, st1, xs, rs1, rvs, hxl, p1⟩ => ?_
      have hws : ws = [] := List.length_eq_zero_iff.mp l2
      subst hws
      have hb1 := hbb s1 us [] I1.kIn l1 rfl
      rw [List.append_nil] at r hb1
      rw [← l1, arr_id] at hb1
      refine wpAny_call (codeAny_mono (run_simM (us := us) (vs := vs) (xs := xs) F hgd ((hrm hc).mono hj) tk hb1 I1 r rs1 rvs (by rw [hxl, ← hol]; simp) p1) fun r s' hq => ?_)
      cases r with
      | error e => exact hq
      | ok fl => cases fl <;> exact hq
    · exact h.elim
  · exact h.elim
/-! ### the head's facts of a written dict -/
theorem dic_of {a : Addr} {ks : List Str} (h : He.dicW K a = some (He.keysIn w.params ks)) : ∃ es n, KDict K w a es n ∧ es.toList.map He.keyOf = He.keysIn w.params ks := by
  unfold He.dicW at h
  cases q : K.lookup a with
  | none =>
    rw [q] at h
    cases h
  | some o =>
    obtain ⟨oc, od, dt, osl⟩ := o
    rw [q] at h
    cases oc with
    | type c =>
      cases od with
      | none =>
        cases dt with
        | dict es n =>
          have h1 : (match decide (c = "dict") && (osl.isEmpty && !(a == sysModules)) with
            | true => some (es.toList.map He.keyOf)
            | false => none) = some (He.keysIn w.params ks) := h
          cases z : decide (c = "dict") && (osl.isEmpty && !(a == sysModules)) with
          | false =>
            rw [z] at h1
            cases h1
          | true =>
            rw [z] at h1
            rw [Bool.and_eq_true, Bool.and_eq_true] at z
            obtain ⟨z1, z3, z4⟩ := z
            have e1 : c = "dict" := of_decide_eq_true z1
            have e2 : osl = #[] := Array.isEmpty_iff.mp z3
            have e3 : (a == sysModules) = false := by
              cases y : a == sysModules with
              | false => rfl
              | true =>
                rw [y] at z4
                cases z4
            subst e1 e2
            exact ⟨es, n, ⟨q, He.keysLit_of (Option.some.inj h1), e3⟩, Option.some.inj h1⟩
        | _ => cases h
      | some b => cases dt <;> cases h
    | _ => cases od <;> cases dt <;> cases h
theorem find_absent {Pm : Params} {z : Str} : ∀ {l : List DictEntry} {ks : List Str}, l.map He.keyOf = He.keysIn Pm ks → z ∉ ks → l.find? (·.key.isStr z) = none ∧ l.any (·.refKey) = false
  | [], _, _, _ => ⟨rfl, rfl⟩
  | e :: r, [], h, _ => by cases h
  | e :: r, k :: ks, h, hz => by
    have h1 : He.keyOf e :: r.map He.keyOf = some (k, PyData.keyHash Pm k) :: He.keysIn Pm ks := h
    injection h1 with h2 h3
    obtain ⟨r1, r2⟩ := find_absent h3 (fun q => hz (List.mem_cons_of_mem _ q))
    unfold He.keyOf at h2
    split at h2
    · rename_i x t q
      obtain ⟨h5, h6⟩ := Prod.mk.inj (Option.some.inj h2)
      have hne : e.key.isStr z = false := by
        rw [q, PySem.W.isStr_of]
        cases y : Value.isStrOf z (Value.str x t) with
        | false => rfl
        | true =>
          obtain ⟨u, hu⟩ := Value.isStrOf_shape (x := z) y
          injection hu with hu1 _
          exact absurd (List.mem_cons.mpr (.inl (hu1.symm.trans h5))) hz
      have hrf : e.refKey = false := by
        unfold DictEntry.refKey
        rw [q]
      exact ⟨by rw [List.find?_cons, hne]; exact r1, by rw [List.any_cons, hrf, r2]; rfl⟩
    · cases h2
theorem gdic_of {x : Str} {a : Addr} {tbl : List (Str × Str)} (hx : mg x = some (.ref a)) (h : He.dicW K a = some (He.keysIn w.params (tbl.map (·.1)))) (hv : ∀ p ∈ tbl, ∃ f, mg p.2 = some (.ref f) ∧ PySem.W.nsIn K a p.1 = some (some (.ref f))) : GDic K w mg x tbl := by
  obtain ⟨es, n, D, hk⟩ := dic_of h
  refine ⟨a, es, n, hx, D, fun z hz => ?_, hv⟩
  have hn : z ∉ tbl.map (·.1) := fun q => by
    obtain ⟨p, hp, e⟩ := List.mem_map.mp q
    rw [List.lookup_eq_none_iff] at hz
    have := hz p hp
    simp [e] at this
  obtain ⟨r1, r2⟩ := find_absent hk hn
  unfold PySem.W.nsIn
  rw [D.at_]
  simp only [r1, r2]
  rfl
theorem gdics_of {l : List (Str × List (Str × Str))} (h : ∀ p ∈ l, GDic K w mg p.1 p.2) : GDics K w mg (fun x => l.lookup x) := fun x tbl e => by
  obtain ⟨k', e1, hm⟩ := lookup_mem e
  subst e1
  exact h _ hm
theorem hT_of {p : Str × Fx → Prop} {T : FTab} (h : ∀ q ∈ T, p q) : ∀ q ∈ T, p q := h
end
end Sm

/-! The Sim layer, part 15: reasoning about mirrors: what is wanted behind them. -/
namespace Sm
open PySem L2
/-- r comes to a value, and Q holds -/
def Ok {α : Type} (r : R α) (Q : α → Sto → Prop) : Prop := match r with
  | .ok a st => Q a st
  | _ => False
/-- what is wanted of a statement's ends -/
structure Dn where
  nx : Env → Sto → Prop := fun _ _ => False
  rt : Val → Sto → Prop := fun _ _ => False
  bk : Env → Sto → Prop := fun _ _ => False
  ct : Env → Sto → Prop := fun _ _ => False
def OkS (r : SR) (D : Dn) : Prop := match r with
  | .nx e st => D.nx e st
  | .rt v st => D.rt v st
  | .bk e st => D.bk e st
  | .ct e st => D.ct e st
  | _ => False
@[simp] theorem Ok_ok {α : Type} (a : α) (st : Sto) (Q : α → Sto → Prop) : Ok (.ok a st) Q = Q a st := rfl
@[simp] theorem Ok_stuck {α : Type} (Q : α → Sto → Prop) : Ok (.stuck : R α) Q = False := rfl
@[simp] theorem Ok_err {α : Type} (x : Xn) (st : Sto) (Q : α → Sto → Prop) : Ok (.err x st : R α) Q = False := rfl
@[simp] theorem OkS_nx (e : Env) (st : Sto) (D : Dn) : OkS (.nx e st) D = D.nx e st := rfl
@[simp] theorem OkS_rt (v : Val) (st : Sto) (D : Dn) : OkS (.rt v st) D = D.rt v st := rfl
@[simp] theorem OkS_bk (e : Env) (st : Sto) (D : Dn) : OkS (.bk e st) D = D.bk e st := rfl
@[simp] theorem OkS_ct (e : Env) (st : Sto) (D : Dn) : OkS (.ct e st) D = D.ct e st := rfl
@[simp] theorem OkS_stuck (D : Dn) : OkS .stuck D = False := rfl
@[simp] theorem Ok_bind {α β : Type} (r : R α) (f : α → Sto → R β) (Q : β → Sto → Prop) : Ok (r.bind f) Q = Ok r fun a st => Ok (f a st) Q := by cases r <;> rfl
@[simp] theorem OkS_to {α : Type} (r : R α) (e : Env) (f : α → Sto → SR) (D : Dn) : OkS (r.to e f) D = Ok r fun a st => OkS (f a st) D := by cases r <;> rfl
@[simp] theorem OkS_seq (a b : Sx) (env : Env) (st : Sto) (D : Dn) : OkS (sSeq a b env st) D = OkS (a env st) { D with nx := fun e s => OkS (b e s) D } := by
  unfold sSeq
  cases a env st <;> rfl
theorem Ok.imp {α : Type} {r : R α} {Q Q' : α → Sto → Prop} (h : Ok r Q) (f : ∀ a st, Q a st → Q' a st) : Ok r Q' := by
  cases r with
  | ok a st => exact f a st h
  | _ => exact h
theorem OkS.imp {r : SR} {D D' : Dn} (h : OkS r D) (h1 : ∀ e s, D.nx e s → D'.nx e s) (h2 : ∀ v s, D.rt v s → D'.rt v s) (h3 : ∀ e s, D.bk e s → D'.bk e s) (h4 : ∀ e s, D.ct e s → D'.ct e s) : OkS r D' := by
  cases r with
  | nx e s => exact h1 e s h
  | rt e s => exact h2 e s h
  | bk e s => exact h3 e s h
  | ct e s => exact h4 e s h
  | _ => exact h
@[simp] theorem Ok_run (n : Nat) (b : Sx) (xs : List Val) (st : Sto) (Q : Val → Sto → Prop) : Ok (runB n b xs st) Q = OkS (b (xs.map some ++ List.replicate (n - xs.length) none) st) { nx := fun _ s => Q .non s, rt := Q } := by
  unfold runB
  cases b (xs.map some ++ List.replicate (n - xs.length) none) st <;> rfl
@[simp] theorem Ok_noErR {α : Type} (r : R α) (Q : α → Sto → Prop) : Ok (noErR r) Q = Ok r Q := by cases r <;> rfl
theorem Ok_iff {α : Type} {r : R α} {Q : α → Sto → Prop} : Ok r Q ↔ ∃ a st, r = .ok a st ∧ Q a st := by
  constructor
  · intro h
    cases r with
    | ok a st => exact ⟨a, st, rfl, h⟩
    | _ => exact False.elim h
  · rintro ⟨a, st, rfl, h⟩
    exact h
theorem Ok_eq {α : Type} {r : R α} {a : α} {st : Sto} (h : Ok r fun a' s => a' = a ∧ s = st) : r = .ok a st := by
  cases r with
  | ok a' s => obtain ⟨h1, h2⟩ := h; rw [h1, h2]
  | _ => exact h.elim
/-! ### a name's value -/
def okV : Val → Bool
  | .exc _ _ => false
  | _ => true
def getV : Option (Option Val) → Sto → R Val
  | some (some (.exc _ _)), _ => .stuck
  | some (some v), st => .ok v st
  | _, _ => .stuck
theorem getV_ok {x : Val} {st : Sto} (h : okV x = true) : getV (some (some x)) st = .ok x st := by
  cases x <;> first | rfl | cases h
@[simp] theorem getV_non (st : Sto) : getV (some (some .non)) st = .ok .non st := rfl
@[simp] theorem getV_bl (st : Sto) (b : Bool) : getV (some (some (.bl b))) st = .ok (.bl b) st := rfl
@[simp] theorem getV_int (st : Sto) (i : Int) : getV (some (some (.int i))) st = .ok (.int i) st := rfl
@[simp] theorem getV_str (st : Sto) (x : Str) : getV (some (some (.str x))) st = .ok (.str x) st := rfl
@[simp] theorem getV_tup (st : Sto) (xs : List Val) : getV (some (some (.tup xs))) st = .ok (.tup xs) st := rfl
@[simp] theorem getV_kt (st : Sto) (xs : List Val) : getV (some (some (.kt xs))) st = .ok (.kt xs) st := rfl
@[simp] theorem getV_loc (st : Sto) (l : Nat) : getV (some (some (.loc l))) st = .ok (.loc l) st := rfl
@[simp] theorem getV_scr (st : Sto) (ns : List Int) : getV (some (some (.scr ns))) st = .ok (.scr ns) st := rfl
@[simp] theorem eVar_eq (i : Nat) (env : Env) (st : Sto) : eVar i env st = getV env[i]? st := by
  unfold eVar
  cases env[i]? with
  | none => rfl
  | some o =>
    cases o with
    | none => rfl
    | some v => cases v <;> rfl
/-! ### the combinators, as equations -/
@[simp] theorem eC_eq (v : Val) (env : Env) (st : Sto) : eC v env st = .ok v st := rfl
@[simp] theorem eOp_eq (o : Val → Val → Sto → R Val) (a b : Ex) (env : Env) (st : Sto) : eOp o a b env st = (a env st).bind fun x st1 => (b env st1).bind fun y st2 => o x y st2 := rfl
@[simp] theorem eUn_eq (o : Val → Sto → R Val) (a : Ex) (env : Env) (st : Sto) : eUn o a env st = (a env st).bind fun x st1 => o x st1 := rfl
def ifB {α : Type} (v : Val) (st : Sto) (f : Bool → Sto → R α) : R α := match v with
  | .bl b => f b st
  | _ => .stuck
@[simp] theorem ifB_bl {α : Type} (b : Bool) (st : Sto) (f : Bool → Sto → R α) : ifB (.bl b) st f = f b st := rfl
@[simp] theorem eAnd_eq (a b : Ex) (env : Env) (st : Sto) : eAnd a b env st = (a env st).bind fun x st1 => ifB x st1 fun q st1 => if q then b env st1 else .ok (.bl false) st1 := by
  unfold eAnd
  congr 1
  funext x s
  cases x with
  | bl b => cases b <;> rfl
  | _ => rfl
@[simp] theorem eOr_eq (a b : Ex) (env : Env) (st : Sto) : eOr a b env st = (a env st).bind fun x st1 => ifB x st1 fun q st1 => if q then .ok (.bl true) st1 else b env st1 := by
  unfold eOr
  congr 1
  funext x s
  cases x with
  | bl b => cases b <;> rfl
  | _ => rfl
@[simp] theorem eNot_eq (a : Ex) (env : Env) (st : Sto) : eNot a env st = (a env st).bind fun x st1 => ifB x st1 fun q st1 => .ok (.bl (!q)) st1 := by
  rfl
@[simp] theorem eChain_eq (o o' : Val → Val → Sto → R Val) (a b c : Ex) (env : Env) (st : Sto) : eChain o o' a b c env st = (a env st).bind fun x st1 => (b env st1).bind fun y st2 => (o x y st2).bind fun z st3 => ifB z st3 fun q st3 => if q then (c env st3).bind fun u st4 => o' y u st4 else .ok (.bl false) st3 := by
  unfold eChain
  congr 1
  funext x s
  congr 1
  funext y s
  congr 1
  funext z s
  cases z with
  | bl b => cases b <;> rfl
  | _ => rfl
@[simp] theorem tVal_eq (a : Ex) (env : Env) (st : Sto) : tVal a env st = (a env st).bind fun x st1 => ifB x st1 fun q st1 => .ok q st1 := by
  unfold tVal
  congr 1
  funext x s
  cases x <;> rfl
@[simp] theorem tAnd_eq (a b : Tx) (env : Env) (st : Sto) : tAnd' a b env st = (a env st).bind fun x st1 => if x then b env st1 else .ok false st1 := rfl
@[simp] theorem tOr_eq (a b : Tx) (env : Env) (st : Sto) : tOr' a b env st = (a env st).bind fun x st1 => if x then .ok true st1 else b env st1 := rfl
@[simp] theorem tNot_eq (a : Tx) (env : Env) (st : Sto) : tNot' a env st = (a env st).bind fun x st1 => .ok (!x) st1 := rfl
@[simp] theorem eIf_eq (c : Tx) (a b : Ex) (env : Env) (st : Sto) : eIf c a b env st = (c env st).bind fun x st1 => if x then a env st1 else b env st1 := rfl
@[simp] theorem aNil_eq (env : Env) (st : Sto) : aNil env st = .ok [] st := rfl
@[simp] theorem aCons_eq (a : Ex) (r : Ax) (env : Env) (st : Sto) : aCons a r env st = (a env st).bind fun x st1 => (r env st1).bind fun xs st2 => .ok (x :: xs) st2 := rfl
@[simp] theorem aApp_eq (a b : Ax) (env : Env) (st : Sto) : aApp a b env st = (a env st).bind fun xs st1 => (b env st1).bind fun ys st2 => .ok (xs ++ ys) st2 := rfl
@[simp] theorem eTup_eq (a : Ax) (env : Env) (st : Sto) : eTup a env st = (a env st).bind fun xs st1 => if xs.length ≤ 16777216 then .ok (.tup xs) st1 else .stuck := rfl
@[simp] theorem eLst_eq (a : Ax) (env : Env) (st : Sto) : eLst a env st = (a env st).bind fun xs st1 => if xs.length ≤ 16777216 then .ok (.loc st1.length) (st1 ++ [.lst xs]) else .stuck := rfl
@[simp] theorem eCall_eq (o : List Val → Sto → R Val) (a : Ax) (env : Env) (st : Sto) : eCall o a env st = (a env st).bind fun xs st1 => o xs st1 := rfl
@[simp] theorem eCallF_eq (m : Fx) (ord : List (Nat ⊕ Nat)) (dvs : List Val) (aa : Ax) (env : Env) (st : Sto) : eCallF m ord dvs aa env st = (aa env st).bind fun xs st1 => m (arr .non ord xs dvs) st1 := rfl
@[simp] theorem sRet_eq (a : Ex) (env : Env) (st : Sto) : sRet a env st = (a env st).to env fun x st1 => .rt x st1 := rfl
@[simp] theorem sRetN_eq (env : Env) (st : Sto) : sRetN env st = .rt .non st := rfl
@[simp] theorem sNil_eq (env : Env) (st : Sto) : sNil env st = .nx env st := rfl
@[simp] theorem sBrk_eq (env : Env) (st : Sto) : sBrk env st = .bk env st := rfl
@[simp] theorem sCnt_eq (env : Env) (st : Sto) : sCnt env st = .ct env st := rfl
@[simp] theorem sDrop_eq (a : Ex) (env : Env) (st : Sto) : sDrop a env st = (a env st).to env fun _ st1 => .nx env st1 := rfl
@[simp] theorem sIf_eq (c : Tx) (a b : Sx) (env : Env) (st : Sto) : sIf c a b env st = (c env st).to env fun x st1 => if x then a env st1 else b env st1 := rfl
@[simp] theorem sAsg_eq (a : Ex) (i : Nat) (env : Env) (st : Sto) : sAsg a (gNm i) env st = (a env st).to env fun x st1 => .nx (env.set i (some x)) st1 := rfl
@[simp] theorem sSub_eq (s : Val → Val → Val → Sto → R Unit) (o i a : Ex) (env : Env) (st : Sto) : sSub s o i a env st = (a env st).to env fun x st1 => (o env st1).to env fun y st2 => (i env st2).to env fun z st3 => (s y z x st3).to env fun _ st4 => .nx env st4 := rfl
@[simp] theorem sPar_eq (i j : Nat) (a : Ax) (env : Env) (st : Sto) : sPar i j a env st = (a env st).to env fun xs st1 => match xs with
  | [x, y] => .nx ((env.set i (some x)).set j (some y)) st1
  | _ => .stuck := rfl
@[simp] theorem sPar3_eq (i j l : Nat) (a : Ax) (env : Env) (st : Sto) : sPar3 i j l a env st = (a env st).to env fun xs st1 => match xs with
  | [x, y, z] => .nx (((env.set i (some x)).set j (some y)).set l (some z)) st1
  | _ => .stuck := rfl
@[simp] theorem sAug_eq (i : Nat) (o : Val → Val → Sto → R Val) (a : Ex) (env : Env) (st : Sto) : sAug i o a env st = (getV env[i]? st).to env fun x _ => (a env st).to env fun y st1 => (o x y st1).to env fun z st2 => .nx (env.set i (some z)) st2 := by
  unfold sAug
  cases env[i]? with
  | none => rfl
  | some ov =>
    cases ov with
    | none => rfl
    | some v => cases v <;> rfl
@[simp] theorem eLm_eq (o : Val → List Val → Sto → R Val) (mo : Ex) (aa : Ax) (env : Env) (st : Sto) : eLm o mo aa env st = (mo env st).bind fun x st1 => if isL st1 x then (aa env st1).bind fun xs st2 => o x xs st2 else .stuck := rfl
@[simp] theorem eSl_eq (o : Ex) (lo hi : Ox) (env : Env) (st : Sto) : eSl o lo hi env st = (o env st).bind fun x st1 => (lo env st1).bind fun l st2 => (hi env st2).bind fun h st3 => match tupOf x with
  | some xs => .ok (if HT.sIx xs.length 0 l = 0 ∧ HT.sIx xs.length xs.length h = xs.length then x else .tup (cutL xs l h)) st3
  | none => match lstOf st3 x with
    | some xs => .ok (.loc st3.length) (st3 ++ [.lst (cutL xs l h)])
    | none => .stuck := rfl
@[simp] theorem oNoP_eq (env : Env) (st : Sto) : oNoP env st = .ok none st := rfl
@[simp] theorem oPart_eq (a : Ex) (env : Env) (st : Sto) : oPart a env st = (a env st).bind fun x st1 => match x with
  | .int i => .ok (some i) st1
  | _ => .stuck := rfl
@[simp] theorem eRev_eq (o : Ex) (env : Env) (st : Sto) : eRev o env st = (o env st).bind fun x st1 => match tupOf x with
  | some xs => .ok (.tup xs.reverse) st1
  | none => match lstOf st1 x with
    | some xs => .ok (.loc st1.length) (st1 ++ [.lst xs.reverse])
    | none => .stuck := rfl
@[simp] theorem oInt_eq (g : Int → Int → Val) (c : Int → Int → Bool) (i j : Int) (st : Sto) : oInt g c (.int i) (.int j) st = if c i j then .ok (g i j) st else .stuck := rfl
/-! ### loops -/
theorem forL_ok {gd : List (Nat × Ob)} {g : Gx} {b : Sx} {D : Dn} (I : List Val → Env → Sto → Prop) (hg : ∀ xs env st, I xs env st → ∀ p ∈ gd, st[p.1]? = some p.2) (h0 : ∀ env st, I [] env st → D.nx env st)
    (hs : ∀ x r env st, I (x :: r) env st → ∃ env1, g x env = some env1 ∧ OkS (b env1 st) { nx := I r, rt := D.rt, bk := D.nx, ct := I r }) : ∀ (xs : List Val) (env : Env) (st : Sto), I xs env st → OkS (forL gd g b xs env st) D
  | [], env, st, h => by
    unfold forL
    rw [if_pos (hg _ _ _ h)]
    exact h0 env st h
  | x :: r, env, st, h => by
    unfold forL
    rw [if_pos (hg _ _ _ h)]
    obtain ⟨env1, e1, q⟩ := hs x r env st h
    rw [e1]
    cases w : b env1 st with
    | nx e s => rw [w] at q; simp only [onG, w]; exact forL_ok I hg h0 hs r e s q
    | ct e s => rw [w] at q; simp only [onG, w]; exact forL_ok I hg h0 hs r e s q
    | bk e s => rw [w] at q; simp only [onG, w]; exact q
    | rt v s => rw [w] at q; simp only [onG, w]; exact q
    | er _ _ _ => rw [w] at q; exact q.elim
    | stuck => rw [w] at q; exact q.elim
@[simp] theorem sFor_eq (mi : Ix) (g : Gx) (b : Sx) (env : Env) (st : Sto) : sFor mi g b env st = (mi env st).to env fun xg st1 => forL xg.2 g b xg.1 env st1 := rfl
theorem lcL_ok {gd : List (Nat × Ob)} {g : Gx} {t : Tx} {m : Ex} {env : Env} {D : Nat} {Q : Unit → Sto → Prop} (J : List Val → List Val → Sto → Prop) (hg : ∀ xs acc st, J xs acc st → (∀ p ∈ gd, st[p.1]? = some p.2)) (h0 : ∀ acc st, J [] acc st → Q () st)
    (hs : ∀ x r acc st, J (x :: r) acc st → acc.length < 16777216 ∧ ∃ env1, g x env = some env1 ∧ Ok (t env1 st) fun b st1 => if b = true then Ok (m env1 st1) fun y st2 => st2[D]? = some (.lst acc) ∧ J r (acc ++ [y]) (st2.set D (.lst (acc ++ [y]))) else J r acc st1) :
    ∀ (xs acc : List Val) (st : Sto), J xs acc st → Ok (lcL gd g t m env D xs st) Q
  | [], acc, st, h => by
    unfold lcL
    rw [if_pos (hg _ _ _ h)]
    exact h0 acc st h
  | x :: r, acc, st, h => by
    unfold lcL
    rw [if_pos (hg _ _ _ h)]
    obtain ⟨hl, env1, e1, q⟩ := hs x r acc st h
    rw [e1]
    show Ok ((noErR (t env1 st)).bind _) Q
    rw [Ok_bind, Ok_noErR]
    refine q.imp fun b st1 qb => ?_
    cases b with
    | true =>
      rw [if_pos rfl] at qb ⊢
      rw [Ok_bind, Ok_noErR]
      refine qb.imp fun y st2 ⟨q1, q2⟩ => ?_
      simp only [q1]
      rw [if_pos hl]
      exact lcL_ok J hg h0 hs r _ _ q2
    | false =>
      rw [if_neg (by simp)] at qb ⊢
      exact lcL_ok J hg h0 hs r acc _ qb
@[simp] theorem eLc_eq (mi : Ix) (g : Gx) (t : Tx) (m : Ex) (vs : List Nat) (env : Env) (st : Sto) : eLc mi g t m vs env st = (mi env st).bind fun xg st1 => (lcL xg.2 g t m (wipeE env vs) st1.length xg.1 (st1 ++ [.lst []])).bind fun _ st2 => .ok (.loc st1.length) st2 := rfl
theorem seq_asg (a : Ex) (i : Nat) (b : Sx) (env : Env) (st : Sto) (D : Dn) : OkS (sSeq (sAsg a (gNm i)) b env st) D = Ok (a env st) fun x s => OkS (b (env.set i (some x)) s) D := by
  rw [OkS_seq, sAsg_eq, OkS_to]; rfl
theorem seq_drop (a : Ex) (b : Sx) (env : Env) (st : Sto) (D : Dn) : OkS (sSeq (sDrop a) b env st) D = Ok (a env st) fun _ s => OkS (b env s) D := by
  rw [OkS_seq, sDrop_eq, OkS_to]; rfl
theorem seq_for (mi : Ix) (g : Gx) (bd b : Sx) (env : Env) (st : Sto) (D : Dn) : OkS (sSeq (sFor mi g bd) b env st) D = Ok (mi env st) fun xg s => OkS (forL xg.2 g bd xg.1 env s) { nx := fun e s => OkS (b e s) D, rt := D.rt, bk := D.bk, ct := D.ct } := by
  rw [OkS_seq, sFor_eq, OkS_to]
theorem seq_if (c : Tx) (x y b : Sx) (env : Env) (st : Sto) (D : Dn) : OkS (sSeq (sIf c x y) b env st) D = Ok (c env st) fun q s => OkS (if q then x env s else y env s) { nx := fun e s => OkS (b e s) D, rt := D.rt, bk := D.bk, ct := D.ct } := by
  rw [OkS_seq, sIf_eq, OkS_to]
theorem seq_sub (k : Val → Val → Val → Sto → R Unit) (o i a : Ex) (b : Sx) (env : Env) (st : Sto) (D : Dn) : OkS (sSeq (sSub k o i a) b env st) D = Ok (a env st) fun x s1 => Ok (o env s1) fun y s2 => Ok (i env s2) fun z s3 => Ok (k y z x s3) fun _ s4 => OkS (b env s4) D := by
  rw [OkS_seq, sSub_eq, OkS_to]
  congr 1
  funext x s
  rw [OkS_to]
  congr 1
  funext x s
  rw [OkS_to]
  congr 1
  funext x s
  rw [OkS_to]
  rfl
theorem OkS_ret (a : Ex) (env : Env) (st : Sto) (D : Dn) : OkS (sRet a env st) D = Ok (a env st) D.rt := by
  rw [sRet_eq, OkS_to]; rfl
end Sm

/-! The Sim layer, part 16: deals: a list of cells and a stirred number, drawn from. -/
namespace Sm
open PySem L2
/-! ### data -/
theorem eqv_int (i j : Int) : PyData.eqv (.int i) (.int j) = decide (i = j) := by
  simp only [PyData.eqv]
  exact Bool.eq_iff_iff.mpr (by simp)
theorem oEq_int (neg : Bool) (i j : Int) (st : Sto) : oEq neg (.int i) (.int j) st = .ok (.bl (if neg then !decide (i = j) else decide (i = j))) st := by
  simp [oEq, oEqD, strPair, pd, deep, SeqAt.shaped, PyData.canLay0, PyData.depth, eqv_int]
theorem oEq_int_non (neg : Bool) (i : Int) (st : Sto) : oEq neg (.int i) .non st = .ok (.bl neg) st := by
  cases neg <;> simp [oEq, oEqD, strPair, pd, deep, SeqAt.shaped, PyData.canLay0, PyData.depth, PyData.eqv]
def ivs (xs : List Int) : List Val := xs.map .int
@[simp] theorem ivs_nil : ivs [] = [] := rfl
@[simp] theorem ivs_cons (x : Int) (xs : List Int) : ivs (x :: xs) = .int x :: ivs xs := rfl
@[simp] theorem ivs_length (xs : List Int) : (ivs xs).length = xs.length := List.length_map ..
theorem ivs_append (xs ys : List Int) : ivs (xs ++ ys) = ivs xs ++ ivs ys := List.map_append ..
theorem ivs_get {xs : List Int} {i : Nat} : (ivs xs)[i]? = xs[i]?.map .int := List.getElem?_map ..
theorem pd_int (st : Sto) (n : Nat) (i : Int) : pd st n (.int i) = some (.int i) := by cases n <;> rfl
theorem mapM_pd_ivs (st : Sto) (n : Nat) : ∀ xs : List Int, (ivs xs).mapM (pd st n) = some (xs.map PyData.int)
  | [] => rfl
  | x :: xs => by rw [ivs_cons, List.mapM_cons, pd_int, mapM_pd_ivs st n xs]; rfl
theorem canLayAll_ivs : ∀ xs : List Int, PyData.canLayAll0 (xs.map PyData.int) = true
  | [] => by simp [PyData.canLayAll0]
  | x :: xs => by simp [PyData.canLayAll0, PyData.canLay0, canLayAll_ivs xs]
theorem depthAll_ivs : ∀ xs : List Int, PyData.depthAll (xs.map PyData.int) ≤ 1
  | [] => by simp [PyData.depthAll]
  | x :: xs => by
    have := depthAll_ivs xs
    simp only [List.map_cons, PyData.depthAll, PyData.depth]
    omega
theorem shaped_ivsL (xs : List Int) : SeqAt.shaped (.list (xs.map PyData.int)) = true := by
  have := depthAll_ivs xs
  simp only [SeqAt.shaped, PyData.canLay0, canLayAll_ivs, Bool.true_and]
  refine decide_eq_true ?_
  simp only [PyData.depth]
  omega
theorem shaped_ivsT (xs : List Int) : SeqAt.shaped (.tuple (xs.map PyData.int)) = true := by
  have := depthAll_ivs xs
  simp only [SeqAt.shaped, PyData.canLay0, canLayAll_ivs, Bool.true_and]
  refine decide_eq_true ?_
  simp only [PyData.depth]
  omega
/-! ### the store -/
/-- other objects stand, but for the two of a deal -/
structure Fr (d c : Nat) (st st' : Sto) : Prop where
  len : st.length ≤ st'.length
  keep : ∀ l, l < st.length → l ≠ d → l ≠ c → st'[l]? = st[l]?
theorem Fr.refl {d c : Nat} {st : Sto} : Fr d c st st := ⟨Nat.le_refl _, fun _ _ _ _ => rfl⟩
theorem Fr.trans {d c : Nat} {st st' st'' : Sto} (a : Fr d c st st') (b : Fr d c st' st'') : Fr d c st st'' := ⟨Nat.le_trans a.len b.len, fun l h h1 h2 => (b.keep l (Nat.lt_of_lt_of_le h a.len) h1 h2).trans (a.keep l h h1 h2)⟩
theorem Fr.app {d c : Nat} {st : Sto} (xs : Sto) : Fr d c st (st ++ xs) := ⟨by simp, fun l h _ _ => List.getElem?_append_left h⟩
theorem Fr.setc {d c : Nat} {st : Sto} {o : Ob} : Fr d c st (st.set c o) := ⟨by simp, fun l _ _ h => List.getElem?_set_ne (Ne.symm h)⟩
theorem Fr.setd {d c : Nat} {st : Sto} {o : Ob} : Fr d c st (st.set d o) := ⟨by simp, fun l _ h _ => List.getElem?_set_ne (Ne.symm h)⟩
theorem Fr.at {d c : Nat} {st st' : Sto} (f : Fr d c st st') {l : Nat} {o : Ob} (h : st[l]? = some o) (h1 : l ≠ d) (h2 : l ≠ c) : st'[l]? = some o := (f.keep l (List.getElem?_eq_some_iff.mp h).1 h1 h2).trans h
structure DealL (st : Sto) (d c n : Nat) : Prop where
  hd : ∃ mix : Int, st[d]? = some (.lst [.loc c, .int mix]) ∧ 0 ≤ mix ∧ mix < 2147483647
  hc : ∃ cells : List Int, st[c]? = some (.lst (ivs cells)) ∧ (∀ x ∈ cells, 0 ≤ x) ∧ cells.length = n
  ne : d ≠ c
def Deal (st : Sto) (d c : Nat) : Prop := ∃ n, n ≤ 63 ∧ DealL st d c n
theorem DealL.app {st : Sto} {d c n : Nat} (h : DealL st d c n) (xs : Sto) : DealL (st ++ xs) d c n := by
  obtain ⟨⟨mix, h1, h2, h3⟩, ⟨cs, h4, h5, h6⟩, ne⟩ := h
  refine ⟨⟨mix, ?_, h2, h3⟩, ⟨cs, ?_, h5, h6⟩, ne⟩
  · rw [List.getElem?_append_left (List.getElem?_eq_some_iff.mp h1).1]; exact h1
  · rw [List.getElem?_append_left (List.getElem?_eq_some_iff.mp h4).1]; exact h4
theorem Deal.app {st : Sto} {d c : Nat} (h : Deal st d c) (xs : Sto) : Deal (st ++ xs) d c := let ⟨n, h1, h2⟩ := h; ⟨n, h1, h2.app xs⟩
theorem DealL.setc {st : Sto} {d c n m : Nat} (h : DealL st d c n) {cs : List Int} (h1 : ∀ x ∈ cs, 0 ≤ x) (h2 : cs.length = m) : DealL (st.set c (.lst (ivs cs))) d c m := by
  obtain ⟨⟨mix, q1, q2, q3⟩, ⟨cs', q4, q5, q6⟩, ne⟩ := h
  refine ⟨⟨mix, by rw [List.getElem?_set_ne (Ne.symm ne)]; exact q1, q2, q3⟩, ⟨cs, ?_, h1, h2⟩, ne⟩
  rw [List.getElem?_set_self (List.getElem?_eq_some_iff.mp q4).1]
theorem DealL.setd {st : Sto} {d c n : Nat} (h : DealL st d c n) {mix : Int} (h1 : 0 ≤ mix) (h2 : mix < 2147483647) : DealL (st.set d (.lst [.loc c, .int mix])) d c n := by
  obtain ⟨⟨mix', q1, q2, q3⟩, ⟨cs', q4, q5, q6⟩, ne⟩ := h
  refine ⟨⟨mix, ?_, h1, h2⟩, ⟨cs', by rw [List.getElem?_set_ne ne]; exact q4, q5, q6⟩, ne⟩
  rw [List.getElem?_set_self (List.getElem?_eq_some_iff.mp q1).1]
/-- objects apart from the deal stay -/
theorem Deal.fr {st st' : Sto} {d c : Nat} (h : Deal st d c) (hp : ∀ l, l = d ∨ l = c → st'[l]? = st[l]?) : Deal st' d c := by
  obtain ⟨n, hn, ⟨mix, q1, q2, q3⟩, ⟨cs', q4, q5, q6⟩, ne⟩ := h
  exact ⟨n, hn, ⟨mix, by rw [hp d (.inl rfl)]; exact q1, q2, q3⟩, ⟨cs', by rw [hp c (.inr rfl)]; exact q4, q5, q6⟩, ne⟩
/-! ### while -/
theorem whileN_ok {c : Tx} {b : Sx} {D : Dn} (I : Nat → Env → Sto → Prop) (hs : ∀ n env st, I n env st → Ok (c env st) fun q st1 => (q = true → ∃ m, n = m + 1 ∧ OkS (b env st1) { nx := I m, ct := I m, bk := D.nx, rt := D.rt }) ∧ (q = false → D.nx env st1)) :
    ∀ (f n : Nat) (env : Env) (st : Sto), n < f → I n env st → OkS (whileN c b f env st) D
  | 0, n, env, st, h, _ => absurd h (Nat.not_lt_zero _)
  | f + 1, n, env, st, h, hi => by
    unfold whileN
    rw [OkS_to]
    refine (hs n env st hi).imp fun q st1 ⟨h1, h2⟩ => ?_
    cases q with
    | false => exact h2 rfl
    | true =>
      obtain ⟨m, rfl, q⟩ := h1 rfl
      rw [if_pos rfl]
      cases w : b env st1 with
      | nx e s => rw [w] at q; exact whileN_ok I hs f m e s (Nat.lt_of_succ_lt_succ h) q
      | ct e s => rw [w] at q; exact whileN_ok I hs f m e s (Nat.lt_of_succ_lt_succ h) q
      | bk e s => rw [w] at q; exact q
      | rt v s => rw [w] at q; exact q
      | er _ _ _ => rw [w] at q; exact q.elim
      | stuck => rw [w] at q; exact q.elim
theorem fuel_lt {n : Nat} (h : n ≤ 16777216) : n < fuel := Nat.lt_of_le_of_lt h (by decide)
/-! ### one draw -/
def anyB (a b e : Int) : Sx :=
  (sSeq (sWhile (tAnd' (tVal (eOp (oEq true) (eOp oIx (eVar 0) (eC (.int 0))) (eLst aNil))) (tVal (eOp (oEq false) (eOp oIx (eOp oIx (eVar 0) (eC (.int 0))) (eUn oNeg (eC (.int 1)))) (eC (.int 0))))) (sDrop (eLm mPop (eOp oIx (eVar 0) (eC (.int 0))) aNil)))
    (sSeq (sIf (tVal (eOp (oEq true) (eOp oIx (eVar 0) (eC (.int 0))) (eLst aNil))) (sSeq (sAsg (eCall (one' oInt1) (aCons (eLm mPop (eOp oIx (eVar 0) (eC (.int 0))) aNil) aNil)) (gNm 2))
    (sSeq (sDrop (eLm mAppend (eOp oIx (eVar 0) (eC (.int 0))) (aCons (eOp oFdiv (eVar 2) (eVar 1)) aNil)))
    (sRet (eOp oMod (eVar 2) (eVar 1))))) sNil)
    (sSeq (sSub kSetL (eVar 0) (eC (.int 1)) (eOp oMod (eCall (one' oInt1) (aCons (eOp oAdd (eOp oMul (eOp oIx (eVar 0) (eC (.int 1))) (eC (.int a))) (eC (.int b))) aNil)) (eC (.int 2147483647))))
    (sRet (eOp oMod (eCall (one' oInt1) (aCons (eOp oFdiv (eOp oIx (eVar 0) (eC (.int 1))) (eC (.int e))) aNil)) (eVar 1))))))
theorem atI_zero {α : Type} (x : α) (xs : List α) : atI (x :: xs) 0 = some x := atI_nat (j := 0) rfl
theorem atI_one {α : Type} (x y : α) (xs : List α) : atI (x :: y :: xs) 1 = some y := atI_nat (j := 1) rfl
/-- deal[0], deal[1] -/
theorem ix_deal0 {st : Sto} {d c n : Nat} (h : DealL st d c n) : oIx (.loc d) (.int 0) st = .ok (.loc c) st := by
  obtain ⟨⟨mix, q1, q2, q3⟩, _, ne⟩ := h
  simp [oIx, seqOf, q1, atI_zero]
/-- deal[0] != [] -/
theorem ne_nil {st : Sto} {d c n : Nat} (h : DealL st d c n) : oEq true (.loc c) (.loc st.length) (st ++ [.lst []]) = .ok (.bl (decide (n ≠ 0))) (st ++ [.lst []]) := by
  obtain ⟨_, ⟨cs, q4, q5, q6⟩, ne⟩ := h
  have e1 : pd (st ++ [.lst []]) deep (.loc c) = some (.list (cs.map PyData.int)) := by
    show (match (st ++ [Ob.lst []])[c]? with | some (.lst xs) => (xs.mapM (pd _ 39)).map PyData.list | _ => none) = _
    rw [List.getElem?_append_left (List.getElem?_eq_some_iff.mp q4).1, q4]
    show ((ivs cs).mapM (pd _ 39)).map PyData.list = _
    rw [mapM_pd_ivs]; rfl
  have e2 : pd (st ++ [.lst []]) deep (.loc st.length) = some (.list []) := by
    show (match (st ++ [Ob.lst []])[st.length]? with | some (.lst xs) => (xs.mapM (pd _ 39)).map PyData.list | _ => none) = _
    rw [List.getElem?_append_right (Nat.le_refl _)]
    simp
  have e3 : SeqAt.shaped (.list []) = true := shaped_ivsL []
  show oEqD true _ _ _ = _
  unfold oEqD
  rw [e1, e2]
  simp only [shaped_ivsL, e3, Bool.and_self, if_true]
  congr 2
  subst q6
  cases cs with
  | nil => simp [PyData.eqv, PyData.eqvAll]
  | cons x r => simp [PyData.eqv, PyData.eqvAll]
theorem isL_cells {st : Sto} {d c n : Nat} (h : DealL st d c n) : isL st (.loc c) = true := by
  obtain ⟨_, ⟨cs, q4, _⟩, ne⟩ := h
  simp [isL, lstOf, q4]
theorem atI_neg1 {α : Type} {xs : List α} {y : α} (h : xs[xs.length - 1]? = some y) : atI xs (-1) = some y := by
  have hl : 0 < xs.length := by
    rcases Nat.eq_zero_or_pos xs.length with z | z
    · rw [List.length_eq_zero_iff.mp z] at h; cases h
    · exact z
  unfold atI ixN
  rw [if_neg (by decide), if_pos (by omega)]
  show xs[((-1 : Int) + xs.length).toNat]? = some y
  rw [show ((-1 : Int) + xs.length).toNat = xs.length - 1 by omega]
  exact h
theorem ix_last {st : Sto} {d c n : Nat} (h : DealL st d c n) (hn : n ≠ 0) : ∃ z : Int, oIx (.loc c) (.int (-1)) st = .ok (.int z) st := by
  obtain ⟨_, ⟨cs, q4, q5, q6⟩, ne⟩ := h
  obtain ⟨z, hz⟩ : ∃ z, cs[cs.length - 1]? = some z := ⟨cs[cs.length - 1]'(by omega), List.getElem?_eq_getElem _⟩
  refine ⟨z, ?_⟩
  have : atI (ivs cs) (-1) = some (.int z) := atI_neg1 (by rw [ivs_length, ivs_get, hz]; rfl)
  simp [oIx, seqOf, q4, this]
theorem pop_cells {st : Sto} {d c m : Nat} (h : DealL st d c (m + 1)) : ∃ (z : Int) (st' : Sto), 0 ≤ z ∧ mPop (.loc c) [] st = .ok (.int z) st' ∧ DealL st' d c m ∧ Fr d c st st' := by
  have h' := h
  obtain ⟨_, ⟨cs, q4, q5, q6⟩, ne⟩ := h
  obtain ⟨z, hz⟩ : ∃ z, cs[cs.length - 1]? = some z := ⟨cs[cs.length - 1]'(by omega), List.getElem?_eq_getElem _⟩
  refine ⟨z, st.set c (.lst (ivs cs.dropLast)), q5 z (List.mem_of_getElem? hz), ?_, h'.setc (fun x hx => q5 x (by rw [List.dropLast_eq_take] at hx; exact List.mem_of_mem_take hx)) (by rw [List.length_dropLast]; omega), .setc⟩
  have e : (ivs cs)[(ivs cs).length - 1]? = some (.int z) := by rw [ivs_length, ivs_get, hz]; rfl
  have e2 : (ivs cs).dropLast = ivs cs.dropLast := by unfold ivs; rw [List.map_dropLast]
  simp only [mPop, q4, e, e2]
theorem app_cells {st : Sto} {d c n : Nat} (h : DealL st d c n) {x : Int} (hx : 0 ≤ x) (hn : n < 16777216) : ∃ st', mAppend (.loc c) [.int x] st = .ok .non st' ∧ DealL st' d c (n + 1) ∧ Fr d c st st' := by
  have h' := h
  obtain ⟨_, ⟨cs, q4, q5, q6⟩, ne⟩ := h
  refine ⟨st.set c (.lst (ivs (cs ++ [x]))), ?_, h'.setc (fun y hy => ?_) (by rw [List.length_append, q6]; rfl), .setc⟩
  · have e : ivs cs ++ [.int x] = ivs (cs ++ [x]) := by rw [ivs_append]; rfl
    have hl : (ivs cs).length < 16777216 := by rw [ivs_length]; omega
    simp only [mAppend, q4, e]
    rw [if_pos hl]
  · rcases List.mem_append.mp hy with z | z
    · exact q5 y z
    · rw [List.mem_singleton.mp z]; exact hx
theorem bits_le {i : Int} {a : Nat} (h : i.natAbs < 2 ^ a) : Builtin.Int.intBits i ≤ a := PyProof.Rows.intBits_le h
theorem oMul_int {i j : Int} {st : Sto} {a b : Nat} (h1 : i.natAbs < 2 ^ a) (h2 : j.natAbs < 2 ^ b) (h : a + b ≤ 134217728) : oMul (.int i) (.int j) st = .ok (.int (i * j)) st := by
  have x := bits_le h1
  have y := bits_le h2
  show (if (Builtin.Int.intBits i : Int) + (Builtin.Int.intBits j : Int) ≤ 134217728 then R.ok (Val.int (i * j)) st else .stuck) = _
  rw [if_pos (by omega)]
theorem any_ok {a b e bound : Int} {st : Sto} {d c : Nat} (h : Deal st d c) (hb : 0 < bound) (hb2 : bound.natAbs.log2 < 9000) (ha : 0 ≤ a) (ha2 : a < 4294967296) (hbb : 0 ≤ b) (he : 0 < e) (he2 : e.natAbs.log2 < 9000) :
    Ok (runB 3 (anyB a b e) [.loc d, .int bound] st) fun v s => ∃ r, v = .int r ∧ 0 ≤ r ∧ r < bound ∧ Deal s d c ∧ Fr d c st s := by
  obtain ⟨n, hn, hd⟩ := h
  unfold anyB
  rw [Ok_run, OkS_seq]
  refine whileN_ok (fun k env s => k ≤ 63 ∧ env = [some (.loc d), some (.int bound), none] ∧ DealL s d c k ∧ Fr d c st s) (fun k env s ⟨hk, he', hs, hf⟩ => ?_) fuel n _ _ (fuel_lt (by omega)) ⟨hn, rfl, hd, .refl⟩
  · subst he'
    have hs1 := hs.app [.lst []]
    have hf1 : Fr d c st (s ++ [Ob.lst []]) := hf.trans (.app _)
    have after : ∀ s1, DealL s1 d c k → Fr d c st s1 → OkS ((sSeq (sIf (tVal (eOp (oEq true) (eOp oIx (eVar 0) (eC (.int 0))) (eLst aNil))) (sSeq (sAsg (eCall (one' oInt1) (aCons (eLm mPop (eOp oIx (eVar 0) (eC (.int 0))) aNil) aNil)) (gNm 2))
        (sSeq (sDrop (eLm mAppend (eOp oIx (eVar 0) (eC (.int 0))) (aCons (eOp oFdiv (eVar 2) (eVar 1)) aNil)))
        (sRet (eOp oMod (eVar 2) (eVar 1))))) sNil)
        (sSeq (sSub kSetL (eVar 0) (eC (.int 1)) (eOp oMod (eCall (one' oInt1) (aCons (eOp oAdd (eOp oMul (eOp oIx (eVar 0) (eC (.int 1))) (eC (.int a))) (eC (.int b))) aNil)) (eC (.int 2147483647))))
        (sRet (eOp oMod (eCall (one' oInt1) (aCons (eOp oFdiv (eOp oIx (eVar 0) (eC (.int 1))) (eC (.int e))) aNil)) (eVar 1))))) [some (.loc d), some (.int bound), none] s1)
        { nx := fun _ s => ∃ r, Val.non = .int r ∧ 0 ≤ r ∧ r < bound ∧ Deal s d c ∧ Fr d c st s, rt := fun v s => ∃ r, v = .int r ∧ 0 ≤ r ∧ r < bound ∧ Deal s d c ∧ Fr d c st s } := by
      intro s1 h1 f1
      have h2 := h1.app [.lst []]
      have f2 : Fr d c st (s1 ++ [Ob.lst []]) := f1.trans (.app _)
      by_cases hk0 : k = 0
      · subst hk0
        obtain ⟨mix, q1, q2, q3⟩ := h2.hd
        have i1 : oIx (.loc d) (.int 1) (s1 ++ [Ob.lst []]) = .ok (.int mix) (s1 ++ [Ob.lst []]) := by simp [oIx, seqOf, q1, atI_one]
        have m1 : oMul (.int mix) (.int a) (s1 ++ [Ob.lst []]) = .ok (.int (mix * a)) (s1 ++ [Ob.lst []]) := oMul_int (a := 31) (b := 32) (by omega) (by omega) (by decide)
        have hm0 : 0 ≤ (mix * a + b) % 2147483647 := Int.emod_nonneg _ (by decide)
        have hm1 : (mix * a + b) % 2147483647 < 2147483647 := Int.emod_lt_of_pos _ (by decide)
        have h3 := h2.setd hm0 hm1
        have ix1 : ixN 2 1 = some 1 := by decide
        have i2 : oIx (.loc d) (.int 1) ((s1 ++ [Ob.lst []]).set d (Ob.lst [.loc c, .int ((mix * a + b) % 2147483647)])) = .ok (.int ((mix * a + b) % 2147483647)) ((s1 ++ [Ob.lst []]).set d (Ob.lst [.loc c, .int ((mix * a + b) % 2147483647)])) := by
          obtain ⟨mix', q1', q2', q3'⟩ := h3.hd
          rw [List.getElem?_set_self (List.getElem?_eq_some_iff.mp q1).1] at q1'
          cases q1'
          have q1'' : ((s1 ++ [Ob.lst []]).set d (Ob.lst [.loc c, .int ((mix * a + b) % 2147483647)]))[d]? = some (.lst [.loc c, .int ((mix * a + b) % 2147483647)]) := List.getElem?_set_self (List.getElem?_eq_some_iff.mp q1).1
          simp [oIx, seqOf, q1'', atI_one]
        have hfin : ∃ r, Val.int ((mix * a + b) % 2147483647 / e % bound) = .int r ∧ 0 ≤ r ∧ r < bound ∧ Deal ((s1 ++ [Ob.lst []]).set d (Ob.lst [.loc c, .int ((mix * a + b) % 2147483647)])) d c ∧ Fr d c st ((s1 ++ [Ob.lst []]).set d (Ob.lst [.loc c, .int ((mix * a + b) % 2147483647)])) :=
          ⟨_, rfl, Int.emod_nonneg _ (by omega), Int.emod_lt_of_pos _ hb, ⟨0, by omega, h3⟩, f2.trans .setd⟩
        have k1 : kSetL (.loc d) (.int 1) (.int ((mix * a + b) % 2147483647)) (s1 ++ [Ob.lst []]) = .ok () ((s1 ++ [Ob.lst []]).set d (Ob.lst [.loc c, .int ((mix * a + b) % 2147483647)])) := by
          simp [kSetL, q1, ix1]
        simp only [OkS_seq, sIf_eq, tVal_eq, eOp_eq, eVar_eq, eC_eq, eLst_eq, aNil_eq, List.getElem?_cons_zero, List.getElem?_cons_succ, getV_loc, getV_int, R.bind_ok, R.to_ok, ix_deal0 h1, ne_nil h1, List.length_nil, Nat.zero_le, if_true, ne_eq, not_true_eq_false, decide_false, ifB_bl, Bool.false_eq_true, if_false, sNil_eq, OkS_nx,
          sSub_eq, eCall_eq, aCons_eq, i1, m1, oAdd, one', oInt1, oInt_eq, k1, sRet_eq, i2]
        simp [oAdd, oInt1, oInt_eq, k1, i2, he, he2, hb, one']
        exact ⟨Int.emod_nonneg _ (by omega), Int.emod_lt_of_pos _ hb, ⟨0, by omega, h3⟩, f2.trans .setd⟩
      · obtain ⟨m, rfl⟩ : ∃ m, k = m + 1 := ⟨k - 1, by omega⟩
        obtain ⟨z, s3, hz, p1, p2, p3⟩ := pop_cells h2
        have L2 := isL_cells h2
        have L3 := isL_cells p2
        have hq : 0 ≤ z / bound := Int.ediv_nonneg hz (by omega)
        obtain ⟨s4, a1, a2, a3⟩ := app_cells p2 hq (by omega)
        have hfin : ∃ r, Val.int (z % bound) = .int r ∧ 0 ≤ r ∧ r < bound ∧ Deal s4 d c ∧ Fr d c st s4 := ⟨_, rfl, Int.emod_nonneg _ (by omega), Int.emod_lt_of_pos _ hb, ⟨m + 1, hk, a2⟩, (f2.trans p3).trans a3⟩
        simp only [OkS_seq, sIf_eq, tVal_eq, eOp_eq, eVar_eq, eC_eq, eLst_eq, aNil_eq, List.getElem?_cons_zero, List.getElem?_cons_succ, getV_loc, getV_int, R.bind_ok, R.to_ok, ix_deal0 h1, ne_nil h1, List.length_nil, Nat.zero_le, if_true, ne_eq, Nat.add_eq_zero_iff, Nat.one_ne_zero, and_false, not_false_eq_true, decide_true, ifB_bl,
          sAsg_eq, eCall_eq, aCons_eq, eLm_eq, ix_deal0 h2, L2, p1, one', oInt1, OkS_nx, List.set_cons_succ, List.set_cons_zero, sDrop_eq, ix_deal0 p2, L3, oInt_eq, hb, hb2, decide_true, and_self, a1, sRet_eq, OkS_rt]
        exact hfin
    by_cases hk0 : k = 0
    · subst hk0
      have q0 : (tAnd' (tVal (eOp (oEq true) (eOp oIx (eVar 0) (eC (.int 0))) (eLst aNil))) (tVal (eOp (oEq false) (eOp oIx (eOp oIx (eVar 0) (eC (.int 0))) (eUn oNeg (eC (.int 1)))) (eC (.int 0))))) [some (.loc d), some (.int bound), none] s = .ok false (s ++ [Ob.lst []]) := by
        simp [ix_deal0 hs, ne_nil hs]
      rw [q0]
      exact ⟨fun z => Bool.noConfusion z, fun _ => after _ hs1 hf1⟩
    · obtain ⟨z, iz⟩ := ix_last hs1 hk0
      have q0 : (tAnd' (tVal (eOp (oEq true) (eOp oIx (eVar 0) (eC (.int 0))) (eLst aNil))) (tVal (eOp (oEq false) (eOp oIx (eOp oIx (eVar 0) (eC (.int 0))) (eUn oNeg (eC (.int 1)))) (eC (.int 0))))) [some (.loc d), some (.int bound), none] s = .ok (decide (z = 0)) (s ++ [Ob.lst []]) := by
        simp [ix_deal0 hs, ix_deal0 hs1, ne_nil hs, hk0, oNeg, iz, oEq_int]
      rw [q0]
      refine ⟨fun _ => ?_, fun _ => after _ hs1 hf1⟩
      obtain ⟨m, rfl⟩ : ∃ m, k = m + 1 := ⟨k - 1, by omega⟩
      obtain ⟨z2, s3, hz, p1, p2, p3⟩ := pop_cells hs1
      refine ⟨m, rfl, ?_⟩
      have L2 := isL_cells hs1
      simp [ix_deal0 hs1, L2, p1]
      exact ⟨by omega, p2, hf1.trans p3⟩
end Sm

/-! The Sim layer, part 17: octets and numbers; picks from a deal. -/
namespace Sm
open PySem L2
def Oct (bs : List Int) : Prop := ∀ b ∈ bs, 0 ≤ b ∧ b < 256
/-- the number of octets, the least first -/
def nm : List Int → Int
  | [] => 0
  | b :: r => b + 256 * nm r
/-- k octets of a number, the least first -/
def le (k : Nat) (n : Int) : List Int := (List.range k).map fun j => n / 256 ^ j % 256
theorem le_length (k : Nat) (n : Int) : (le k n).length = k := by simp [le]
theorem le_oct (k : Nat) (n : Int) : Oct (le k n) := fun b hb => by
  obtain ⟨j, _, rfl⟩ := List.mem_map.mp hb
  exact ⟨Int.emod_nonneg _ (by decide), Int.emod_lt_of_pos _ (by decide)⟩
theorem le_succ (k : Nat) (n : Int) : le (k + 1) n = le k n ++ [n / 256 ^ k % 256] := by simp [le, List.range_succ]
theorem nm_append (xs ys : List Int) : nm (xs ++ ys) = nm xs + 256 ^ xs.length * nm ys := by
  induction xs with
  | nil => simp [nm]
  | cons x r ih =>
    simp only [List.cons_append, nm, ih, List.length_cons, Int.pow_succ]
    rw [Int.mul_add, ← Int.mul_assoc, Int.mul_comm 256 (256 ^ r.length), Int.add_assoc]
theorem pow_pos256 (k : Nat) : (0 : Int) < 256 ^ k := Int.pow_pos (by decide)
theorem nm_bound {bs : List Int} (h : Oct bs) : 0 ≤ nm bs ∧ nm bs < 256 ^ bs.length := by
  induction bs with
  | nil => simp [nm]
  | cons b r ih =>
    obtain ⟨h1, h2⟩ := h b List.mem_cons_self
    obtain ⟨h3, h4⟩ := ih fun x hx => h x (List.mem_cons_of_mem _ hx)
    simp only [nm, List.length_cons, Int.pow_succ]
    omega
theorem nm_le {n : Int} (hn : 0 ≤ n) : ∀ k : Nat, nm (le k n) = n % 256 ^ k
  | 0 => by simp [le, nm, Int.emod_one]
  | k + 1 => by
    have h0 := pow_pos256 k
    rw [le_succ, nm_append, nm_le hn k, le_length]
    simp only [nm, Int.mul_zero, Int.add_zero]
    rw [Int.emod_def n (256 ^ k), Int.emod_def n (256 ^ (k + 1)), Int.emod_def (n / 256 ^ k) 256, Int.pow_succ, ← Int.ediv_ediv_of_nonneg (Int.le_of_lt h0), Int.mul_sub, Int.mul_assoc]
    omega
theorem nm_le_of {n : Int} {k : Nat} (hn : 0 ≤ n) (h : n < 256 ^ k) : nm (le k n) = n := by rw [nm_le hn, Int.emod_eq_of_lt hn h]
theorem nm_lt_abs {bs : List Int} (h : Oct bs) : (nm bs).natAbs < 2 ^ (8 * bs.length) := by
  obtain ⟨h1, h2⟩ := nm_bound h
  have e : (256 : Int) ^ bs.length = ((2 ^ (8 * bs.length) : Nat) : Int) := by
    rw [Nat.pow_mul]
    norm_cast
  omega
/-! ### number_of -/
noncomputable def numB : Sx :=
  (sSeq (sAsg (eC (.int 0)) (gNm 1))
    (sSeq (sFor (iSeq (eRev (eVar 0))) (gNm 2)
    (sAsg (eOp oAdd (eOp oMul (eC (.int 256)) (eVar 1)) (eVar 2)) (gNm 1)))
    (sRet (eVar 1))))
theorem oAdd_int (i j : Int) (st : Sto) : oAdd (.int i) (.int j) st = .ok (.int (i + j)) st := rfl
theorem num_loop {st : Sto} {v : Val} {D : Dn} : ∀ (ys zs : List Int) (e2 : Option Val), Oct ys → Oct zs → ys.length + zs.length ≤ 1000 → (∀ e2, D.nx [some v, some (.int (nm (ys.reverse ++ zs))), e2] st) →
    OkS (forL [] (gNm 2) (sAsg (eOp oAdd (eOp oMul (eC (.int 256)) (eVar 1)) (eVar 2)) (gNm 1)) (ivs ys) [some v, some (.int (nm zs)), e2] st) D
  | [], zs, e2, _, _, _, h => by simpa [forL] using h e2
  | y :: r, zs, e2, hy, hz, hl, h => by
    have m1 : oMul (.int 256) (.int (nm zs)) st = .ok (.int (256 * nm zs)) st := oMul_int (a := 9) (b := 8 * zs.length) (by decide) (nm_lt_abs hz) (by simp only [List.length_cons] at hl; omega)
    have hz' : Oct (y :: zs) := fun x hx => by
      rcases List.mem_cons.mp hx with e | hx
      · rw [e]; exact hy y List.mem_cons_self
      · exact hz x hx
    have body : (sAsg (eOp oAdd (eOp oMul (eC (.int 256)) (eVar 1)) (eVar 2)) (gNm 1)) [some v, some (.int (nm zs)), some (.int y)] st = .nx [some v, some (.int (nm (y :: zs))), some (.int y)] st := by
      simp [m1, oAdd_int, nm, Int.add_comm]
    unfold forL
    rw [ivs_cons]
    simp only
    rw [if_pos (by simp)]
    have g1 : gNm 2 (.int y) [some v, some (.int (nm zs)), e2] = some [some v, some (.int (nm zs)), some (.int y)] := rfl
    simp only [g1, onG, body]
    refine num_loop r (y :: zs) _ (fun x hx => hy x (List.mem_cons_of_mem _ hx)) hz' (by simp only [List.length_cons] at hl ⊢; omega) fun e2 => ?_
    have := h e2
    rwa [List.reverse_cons, List.append_assoc] at this
theorem num_ok {st : Sto} {v : Val} {bs : List Int} (hv : tupOf v = some (ivs bs)) (hb : Oct bs) (hl : bs.length ≤ 1000) : runB 3 numB [v] st = .ok (.int (nm bs)) st := by
  have ho : getV (some (some v)) st = .ok v st := by cases v <;> first | rfl | cases hv
  have h : Ok (runB 3 numB [v] st) fun a s => a = .int (nm bs) ∧ s = st := by
    unfold numB
    simp only [Ok_run, OkS_seq, sFor_eq, OkS_to, sAsg_eq, eC_eq, Ok_ok, OkS_nx, iSeq, eRev_eq, eVar_eq]
    simp only [List.map_cons, List.map_nil, List.length_cons, List.length_nil, List.cons_append, List.nil_append, List.replicate, List.set_cons_succ, List.set_cons_zero, List.getElem?_cons_zero, ho, R.bind_ok, hv, Ok_ok]
    have e : (ivs bs).reverse = ivs bs.reverse := by unfold ivs; rw [List.map_reverse]
    rw [e]
    refine num_loop bs.reverse [] none (fun x hx => hb x (List.mem_reverse.mp hx)) (fun x hx => nomatch hx) (by simpa using hl) fun e2 => ?_
    simp
  exact Ok_eq h
/-! ### octets_of, low -/
noncomputable def octB : Sx :=
  (sSeq (sPar 2 3 (aCons (eLst aNil) (aCons (eVar 0) aNil)))
    (sSeq (sFor (iRange1 (eVar 1)) (gNm 4)
    (sSeq (sDrop (eLm mAppend (eVar 2) (aCons (eOp oAnd (eVar 3) (eC (.int 255))) aNil)))
    (sAug 3 oShr (eC (.int 8)))))
    (sSeq (sIf (tVal (eOp oGt (eVar 3) (eC (.int 0)))) (sRaise ("InvalidSize" : Str) ("word" : Str) (eC (.str ("number" : Str)))) sNil)
    (sRet (eCall (one' oTuple) (aCons (eVar 2) aNil))))))
noncomputable def lowB : Sx :=
  (sSeq (sAsg (eLst aNil) (gNm 2))
    (sSeq (sFor (iRange1 (eVar 1)) (gNm 3)
    (sSeq (sDrop (eLm mAppend (eVar 2) (aCons (eOp oMod (eCall (one' oInt1) (aCons (eVar 0) aNil)) (eC (.int 256))) aNil)))
    (sAsg (eOp oFdiv (eVar 0) (eC (.int 256))) (gNm 0))))
    (sRet (eCall (one' oTuple) (aCons (eVar 2) aNil)))))
theorem append_at {st : Sto} {xs : List Val} {y : Val} (h : xs.length < 16777216) : mAppend (.loc st.length) [y] (st ++ [Ob.lst xs]) = .ok .non (st ++ [Ob.lst (xs ++ [y])]) := by
  have e : (st ++ [Ob.lst xs])[st.length]? = some (.lst xs) := by rw [List.getElem?_append_right (Nat.le_refl _)]; simp
  have e2 : (st ++ [Ob.lst xs]).set st.length (.lst (xs ++ [y])) = st ++ [Ob.lst (xs ++ [y])] := by
    rw [List.set_append_right _ _ (Nat.le_refl _)]; simp
  simp only [mAppend, e]
  rw [if_pos h, e2]
theorem isL_at {st : Sto} {xs : List Val} : isL (st ++ [Ob.lst xs]) (.loc st.length) = true := by
  have e : (st ++ [Ob.lst xs])[st.length]? = some (.lst xs) := by rw [List.getElem?_append_right (Nat.le_refl _)]; simp
  simp [isL, lstOf, e]
theorem oTuple_at {st : Sto} {xs : List Val} : oTuple (.loc st.length) (st ++ [Ob.lst xs]) = .ok (.tup xs) (st ++ [Ob.lst xs]) := by
  have e : (st ++ [Ob.lst xs])[st.length]? = some (.lst xs) := by rw [List.getElem?_append_right (Nat.le_refl _)]; simp
  simp [oTuple, tupOf, lstOf, e]
theorem ediv_pow_succ (n : Int) (j : Nat) : n / 256 ^ j / 256 = n / 256 ^ (j + 1) := by
  rw [Int.pow_succ, Int.ediv_ediv_of_nonneg (Int.le_of_lt (pow_pos256 j))]
theorem range_items {I : Nat → Env → Sto → Prop} {g : Gx} {b : Sx} {D : Dn} {f : Nat → Val} {n : Nat} (hs : ∀ j env st, j < n → I j env st → ∃ env1, g (f j) env = some env1 ∧ OkS (b env1 st) { nx := I (j + 1), rt := D.rt, bk := D.nx, ct := I (j + 1) }) (h0 : ∀ env st, I n env st → D.nx env st) {env : Env} {st : Sto} (h : I 0 env st) :
    OkS (forL [] g b ((List.range n).map f) env st) D := by
  refine forL_ok (fun xs env st => ∃ j, xs = ((List.range n).drop j).map f ∧ j ≤ n ∧ I j env st) (fun _ _ _ _ => by simp) (fun env st ⟨j, e, hj, hi⟩ => ?_) (fun x r env st ⟨j, e, hj, hi⟩ => ?_) _ env st ⟨0, by simp, Nat.zero_le _, h⟩
  · have hl := congrArg List.length e
    simp at hl
    have : j = n := by omega
    subst this
    exact h0 env st hi
  · have hl := congrArg List.length e
    simp at hl
    have hjn : j < n := by omega
    have e2 : (List.range n).drop j = j :: (List.range n).drop (j + 1) := by
      rw [List.drop_eq_getElem_cons (by simpa using hjn)]
      simp
    rw [e2, List.map_cons] at e
    injection e with ex er
    subst ex
    obtain ⟨env1, g1, q⟩ := hs j env st hjn hi
    exact ⟨env1, g1, q.imp (fun e s z => ⟨j + 1, er, hjn, z⟩) (fun _ _ z => z) (fun _ _ z => z) (fun e s z => ⟨j + 1, er, hjn, z⟩)⟩
theorem oct_ok {st : Sto} {n z : Int} {k : Nat} (hz : z = (k : Int)) (hn : 0 ≤ n) (hk : k ≤ 1000) (h : n < 256 ^ k) : runB 5 octB [.int n, .int z] st = .ok (.tup (ivs (le k n))) (st ++ [Ob.lst (ivs (le k n))]) := by
  have hh : Ok (runB 5 octB [.int n, .int z] st) fun a s => a = .tup (ivs (le k n)) ∧ s = st ++ [Ob.lst (ivs (le k n))] := by
    unfold octB
    have r1 : iRange1 (eVar 1) [some (.int n), some (.int z), some (.loc st.length), some (.int n), none] (st ++ [Ob.lst []]) = .ok ((List.range k).map fun (i : Nat) => Val.int (i : Int), []) (st ++ [Ob.lst []]) := by
      show (if -(2 ^ 62) ≤ z ∧ z < 2 ^ 62 then R.ok ((List.range z.toNat).map fun (i : Nat) => Val.int (i : Int), []) (st ++ [Ob.lst []]) else .stuck) = _
      rw [if_pos ⟨by omega, by omega⟩, hz, Int.toNat_natCast]
    simp only [Ok_run, OkS_seq, sPar_eq, aCons_eq, eLst_eq, aNil_eq, OkS_to, eVar_eq]
    simp only [List.map_cons, List.map_nil, List.length_cons, List.length_nil, List.cons_append, List.nil_append, List.replicate, List.getElem?_cons_zero, List.getElem?_cons_succ, getV_int, R.bind_ok, Nat.zero_le, if_true, Ok_ok, OkS_nx, List.set_cons_succ, List.set_cons_zero, sFor_eq, OkS_to]
    rw [r1]
    simp only [Ok_ok]
    refine range_items (n := k) (I := fun j env s => ∃ e4, env = [some (.int n), some (.int z), some (.loc st.length), some (.int (n / 256 ^ j)), e4] ∧ s = st ++ [Ob.lst (ivs (le j n))]) (fun j env s hj ⟨e4, he, hs⟩ => ?_) (fun env s ⟨e4, he, hs⟩ => ?_) ⟨none, by simp, by simp [le]⟩
    · subst he hs
      refine ⟨_, rfl, ?_⟩
      have h0 : 0 ≤ n / 256 ^ j := Int.ediv_nonneg hn (Int.le_of_lt (pow_pos256 j))
      have b1 : Builtin.bitAnd (n / 256 ^ j) 255 = n / 256 ^ j % 256 := Bits.bitAnd_mask 8 h0
      have b2 : n / 256 ^ j / 2 ^ (8 : Int).toNat = n / 256 ^ (j + 1) := ediv_pow_succ n j
      have a1 := append_at (st := st) (xs := ivs (le j n)) (y := .int (n / 256 ^ j % 256)) (by rw [ivs_length, le_length]; omega)
      have L1 := isL_at (st := st) (xs := ivs (le j n))
      have e1 : ivs (le j n) ++ [.int (n / 256 ^ j % 256)] = ivs (le (j + 1) n) := by rw [le_succ, ivs_append]; rfl
      simp only [OkS_seq, sDrop_eq, eLm_eq, eVar_eq, eOp_eq, eC_eq, aCons_eq, aNil_eq, gNm, List.set_cons_succ, List.set_cons_zero, List.getElem?_cons_zero, List.getElem?_cons_succ, getV_loc, getV_int, R.bind_ok, L1, if_true, oInt_eq, b1, a1, R.to_ok, OkS_nx, sAug_eq, e1]
      rw [if_pos (by decide)]
      simp only [R.to_ok, OkS_nx, b2]
      exact ⟨_, rfl, trivial⟩
    · subst he hs
      have h0 : n / 256 ^ k = 0 := Int.ediv_eq_zero_of_lt hn h
      have t1 := oTuple_at (st := st) (xs := ivs (le k n))
      simp [h0, one', t1]
  exact Ok_eq hh
theorem low_ok {st : Sto} {n z : Int} {k : Nat} (hz : z = (k : Int)) (hn : 0 ≤ n) (hk : k ≤ 1000) : runB 4 lowB [.int n, .int z] st = .ok (.tup (ivs (le k n))) (st ++ [Ob.lst (ivs (le k n))]) := by
  have hh : Ok (runB 4 lowB [.int n, .int z] st) fun a s => a = .tup (ivs (le k n)) ∧ s = st ++ [Ob.lst (ivs (le k n))] := by
    unfold lowB
    have r1 : iRange1 (eVar 1) [some (.int n), some (.int z), some (.loc st.length), none] (st ++ [Ob.lst []]) = .ok ((List.range k).map fun (i : Nat) => Val.int (i : Int), []) (st ++ [Ob.lst []]) := by
      show (if -(2 ^ 62) ≤ z ∧ z < 2 ^ 62 then R.ok ((List.range z.toNat).map fun (i : Nat) => Val.int (i : Int), []) (st ++ [Ob.lst []]) else .stuck) = _
      rw [if_pos ⟨by omega, by omega⟩, hz, Int.toNat_natCast]
    simp only [Ok_run, OkS_seq, sAsg_eq, eLst_eq, aNil_eq, OkS_to]
    simp only [List.map_cons, List.map_nil, List.length_cons, List.length_nil, List.cons_append, List.nil_append, List.replicate, R.bind_ok, Nat.zero_le, if_true, Ok_ok, OkS_nx, List.set_cons_succ, List.set_cons_zero, sFor_eq, OkS_to]
    rw [r1]
    simp only [Ok_ok]
    refine range_items (n := k) (I := fun j env s => ∃ e4, env = [some (.int (n / 256 ^ j)), some (.int z), some (.loc st.length), e4] ∧ s = st ++ [Ob.lst (ivs (le j n))]) (fun j env s hj ⟨e4, he, hs⟩ => ?_) (fun env s ⟨e4, he, hs⟩ => ?_) ⟨none, by simp, by simp [le]⟩
    · subst he hs
      refine ⟨_, rfl, ?_⟩
      have a1 := append_at (st := st) (xs := ivs (le j n)) (y := .int (n / 256 ^ j % 256)) (by rw [ivs_length, le_length]; omega)
      have L1 := isL_at (st := st) (xs := ivs (le j n))
      have e1 : ivs (le j n) ++ [.int (n / 256 ^ j % 256)] = ivs (le (j + 1) n) := by rw [le_succ, ivs_append]; rfl
      simp only [OkS_seq, sDrop_eq, eLm_eq, eVar_eq, eOp_eq, eC_eq, aCons_eq, aNil_eq, gNm, List.set_cons_succ, List.set_cons_zero, List.getElem?_cons_zero, List.getElem?_cons_succ, getV_loc, getV_int, R.bind_ok, L1, if_true, oInt_eq, eCall_eq, one', oInt1]
      rw [if_pos (by decide)]
      simp only [R.bind_ok, a1, R.to_ok, OkS_nx, sAsg_eq, eVar_eq, eOp_eq, eC_eq, List.getElem?_cons_zero, getV_int, oInt_eq, e1]
      rw [if_pos (by decide)]
      simp only [R.to_ok, OkS_nx, ediv_pow_succ, List.set_cons_zero]
      exact ⟨_, rfl, trivial⟩
    · subst he hs
      have t1 := oTuple_at (st := st) (xs := ivs (le k n))
      simp [one', t1]
  exact Ok_eq hh
/-! ### picks -/
noncomputable def ofB (m : Fx) : Sx := (sRet (eOp oIx (eVar 1) (eCallF m [.inl 0, .inl 1] [] (aCons (eVar 0) (aCons (eCall (one' oLen) (aCons (eVar 1) aNil)) aNil)))))
/-- what a draw does -/
def AnyOk (m : Fx) : Prop := ∀ (bound : Int) (st : Sto) (d c : Nat), Deal st d c → 0 < bound → bound.natAbs.log2 < 9000 → Ok (m [.loc d, .int bound] st) fun v s => ∃ r, v = .int r ∧ 0 ≤ r ∧ r < bound ∧ Deal s d c ∧ Fr d c st s
theorem anyOk {a b e : Int} (ha : 0 ≤ a) (ha2 : a < 4294967296) (hbb : 0 ≤ b) (he : 0 < e) (he2 : e.natAbs.log2 < 9000) : AnyOk (runB 3 (anyB a b e)) := fun bound st d c h h1 h2 => any_ok h h1 h2 ha ha2 hbb he he2
theorem of_ok {m : Fx} (hm : AnyOk m) {st : Sto} {d c l : Nat} {xs : List Val} (h : Deal st d c) (hl : st[l]? = some (.lst xs)) (h1 : l ≠ d) (h2 : l ≠ c) (hx : xs ≠ []) (hz : xs.length < 16777216) :
    Ok (runB 2 (ofB m) [.loc d, .loc l] st) fun v s => v ∈ xs ∧ Deal s d c ∧ Fr d c st s := by
  have hp : 0 < xs.length := List.length_pos_iff.mpr hx
  have l1 : oLen (.loc l) st = .ok (.int xs.length) st := by simp [oLen, seqOf, hl]
  have hb : ((xs.length : Int)).natAbs.log2 < 9000 := by
    have : ((xs.length : Int)).natAbs = xs.length := by omega
    rw [this]
    have := Nat.log2_lt (n := xs.length) (k := 9000) (by omega)
    exact this.mpr (Nat.lt_of_lt_of_le hz (Nat.le_trans (by decide : 16777216 ≤ 2 ^ 24) (Nat.pow_le_pow_right (by decide) (by decide))))
  unfold ofB
  rw [Ok_run]
  simp only [List.map_cons, List.map_nil, List.length_cons, List.length_nil, List.cons_append, List.nil_append, List.replicate, sRet_eq, OkS_to, eOp_eq, Ok_bind, eVar_eq, List.getElem?_cons_succ, List.getElem?_cons_zero, getV_loc, Ok_ok, eCallF_eq, aCons_eq, eCall_eq, aNil_eq, R.bind_ok, one', l1, arr]
  refine (hm xs.length st d c h (by omega) hb).imp fun v s ⟨r, e, h3, h4, h5, h6⟩ => ?_
  subst e
  obtain ⟨j, rfl⟩ : ∃ j : Nat, r = (j : Int) := ⟨r.toNat, by omega⟩
  have hj : j < xs.length := by omega
  have a1 : atI xs (j : Int) = some xs[j] := atI_nat (List.getElem?_eq_getElem hj)
  have l2 := h6.at hl h1 h2
  simp [oIx, seqOf, l2, a1]
  exact ⟨h5, h6⟩
end Sm

/-! The Sim layer, part 18: lists of draws; a deal laid. -/
namespace Sm
open PySem L2
theorem Fr.setNew {d c D : Nat} {st s : Sto} {o : Ob} (h : Fr d c st s) (hD : st.length ≤ D) : Fr d c st (s.set D o) :=
  ⟨by rw [List.length_set]; exact h.len, fun l hl h1 h2 => by rw [List.getElem?_set_ne (by omega)]; exact h.keep l hl h1 h2⟩
theorem Deal.lt {d c : Nat} {st : Sto} (h : Deal st d c) : d < st.length ∧ c < st.length ∧ d ≠ c := by
  obtain ⟨n, hn, ⟨mix, q1, _⟩, ⟨cs, q4, _⟩, ne⟩ := h
  exact ⟨(List.getElem?_eq_some_iff.mp q1).1, (List.getElem?_eq_some_iff.mp q4).1, ne⟩
theorem Deal.setOther {d c D : Nat} {st : Sto} {o : Ob} (h : Deal st d c) (h1 : D ≠ d) (h2 : D ≠ c) : Deal (st.set D o) d c := h.fr fun l hl => by
  rcases hl with rfl | rfl
  · exact List.getElem?_set_ne h1
  · exact List.getElem?_set_ne h2
theorem at_new {st : Sto} {o : Ob} : (st ++ [o])[st.length]? = some o := by rw [List.getElem?_append_right (Nat.le_refl _)]; simp
/-- [any(deal, b) for x in ..] -/
theorem lcAny {m : Fx} (hm : AnyOk m) {mi : Ix} {i d c : Nat} {b : Int} {env : Env} {st st1 : Sto} {items : List Val} (hmi : mi env st = .ok (items, []) st1) (h : Deal st1 d c) (hi : i ≠ 0) (he : env[0]? = some (some (.loc d))) (hb : 0 < b) (hb2 : b.natAbs.log2 < 9000) (hl : items.length < 16777216) :
    Ok (eLc mi (gNm i) tYes' (eCallF m [.inl 0, .inl 1] [] (aCons (eVar 0) (aCons (eC (.int b)) aNil))) [i] env st) fun v s => ∃ (l : Nat) (bs : List Int), v = .loc l ∧ s[l]? = some (.lst (ivs bs)) ∧ st1.length ≤ l ∧ bs.length = items.length ∧ (∀ x ∈ bs, 0 ≤ x ∧ x < b) ∧ Deal s d c ∧ Fr d c st1 s := by
  obtain ⟨hd, hc, hdc⟩ := h.lt
  rw [eLc_eq, hmi, R.bind_ok, Ok_bind]
  refine lcL_ok (fun xs acc s => ∃ bs, acc = ivs bs ∧ s[st1.length]? = some (.lst acc) ∧ xs.length + bs.length = items.length ∧ (∀ x ∈ bs, 0 ≤ x ∧ x < b) ∧ Deal s d c ∧ Fr d c st1 s) (fun _ _ _ _ => by simp) (fun acc s ⟨bs, e, q1, q2, q3, q4, q5⟩ => ?h0) (fun x r acc s ⟨bs, e, q1, q2, q3, q4, q5⟩ => ?hs) items [] _ ⟨[], rfl, at_new, by simp, fun x hx => (by cases hx), h.app _, .app _⟩
  case h0 =>
    subst e
    exact ⟨st1.length, bs, rfl, q1, Nat.le_refl _, by simpa using q2, q3, q4, q5⟩
  case hs =>
    subst e
    refine ⟨by rw [ivs_length]; simp only [List.length_cons] at q2; omega, (wipeE env [i]).set i (some x), rfl, ?_⟩
    have e0 : ((wipeE env [i]).set i (some x))[0]? = some (some (.loc d)) := by
      show ((env.set i none).set i (some x))[0]? = _
      rw [List.getElem?_set_ne (by omega), List.getElem?_set_ne (by omega)]
      exact he
    show Ok (.ok true s) _
    rw [Ok_ok, if_pos rfl]
    simp only [eCallF_eq, aCons_eq, eVar_eq, e0, getV_loc, R.bind_ok, eC_eq, aNil_eq]
    refine (hm b s d c q4 hb hb2).imp fun v s2 ⟨z, ev, z1, z2, z3, z4⟩ => ?_
    subst ev
    have q1' := z4.at q1 (by omega) (by omega)
    have hlt : st1.length < s2.length := (List.getElem?_eq_some_iff.mp q1').1
    refine ⟨q1', bs ++ [z], by rw [ivs_append]; rfl, List.getElem?_set_self hlt, by simp only [List.length_cons] at q2; rw [List.length_append]; simp only [List.length_cons, List.length_nil]; omega, fun y hy => ?_, z3.setOther (by omega) (by omega), (q5.trans z4).setNew (Nat.le_refl _)⟩
    rcases List.mem_append.mp hy with w | w
    · exact q3 y w
    · rw [List.mem_singleton.mp w]; exact ⟨z1, z2⟩
noncomputable def octetsB (m : Fx) : Sx := (sRet (eCall (one' oTuple) (aCons (eLc (iRange1 (eVar 1)) (gNm 2) tYes' (eCallF m [.inl 0, .inl 1] [] (aCons (eVar 0) (aCons (eC (.int 256)) aNil))) [2]) aNil)))
theorem iRange1_ok {a : Ex} {env : Env} {st st1 : Sto} {z : Int} {k : Nat} (h : a env st = .ok (.int z) st1) (hz : z = (k : Int)) (hk : k ≤ 16777216) : iRange1 a env st = .ok ((List.range k).map fun (i : Nat) => Val.int (i : Int), []) st1 := by
  unfold iRange1
  rw [h, R.bind_ok]
  show (if -(2 ^ 62) ≤ z ∧ z < 2 ^ 62 then R.ok ((List.range z.toNat).map fun (i : Nat) => Val.int (i : Int), []) st1 else .stuck) = _
  rw [if_pos ⟨by omega, by omega⟩, hz, Int.toNat_natCast]
theorem octets_ok {m : Fx} (hm : AnyOk m) {st : Sto} {d c k : Nat} {z : Int} (hz : z = (k : Int)) (hk : k ≤ 1000) (h : Deal st d c) :
    Ok (runB 3 (octetsB m) [.loc d, .int z] st) fun v s => ∃ bs, v = .tup (ivs bs) ∧ bs.length = k ∧ Oct bs ∧ Deal s d c ∧ Fr d c st s := by
  unfold octetsB
  rw [Ok_run]
  simp only [List.map_cons, List.map_nil, List.length_cons, List.length_nil, List.cons_append, List.nil_append, List.replicate, sRet_eq, OkS_to, eCall_eq, Ok_bind, aCons_eq, aNil_eq]
  refine (lcAny hm (mi := iRange1 (eVar 1)) (items := (List.range k).map fun (i : Nat) => Val.int (i : Int)) (iRange1_ok (st1 := st) (z := z) rfl hz (by omega)) h (by decide) rfl (by decide) (by decide) (by simp; omega)).imp fun v s ⟨l, bs, e, q1, q2, q3, q4, q5, q6⟩ => ?_
  subst e
  have t1 : oTuple (.loc l) s = .ok (.tup (ivs bs)) s := by simp [oTuple, tupOf, lstOf, q1]
  simp only [R.bind_ok, Ok_ok, one', t1, OkS_rt]
  exact ⟨bs, rfl, by simpa using q3, q4, q5, q6⟩
end Sm

/-! The Sim layer, part 19: a deal laid from the script. -/
namespace Sm
open PySem L2
noncomputable def dealB (ini : Ex) (A M C : Int) : Sx :=
  (sSeq (sAsg (eLc (iSeq (eSl (eVar 0) oNoP (oPart (eC (.int 63))))) (gNm 2) tYes' (eCall (one' oAbs) (aCons (eCall (one' oInt1) (aCons (eVar 2) aNil)) aNil)) [2]) (gNm 3))
    (sSeq (sAsg ini (gNm 4))
    (sSeq (sFor (iSeq (eVar 3)) (gNm 2)
    (sAsg (eOp oMod (eCall (one' oInt1) (aCons (eOp oAdd (eOp oAdd (eOp oMul (eVar 4) (eC (.int A))) (eOp oMod (eVar 2) (eC (.int M)))) (eC (.int C))) aNil)) (eC (.int 2147483647))) (gNm 4)))
    (sRet (eLst (aCons (eRev (eLc (iSeq (eVar 3)) (gNm 2) (tVal (eOp oGe (eVar 2) (eOp oPow (eC (.int 10)) (eC (.int 18))))) (eVar 2) [2])) (aCons (eVar 4) aNil)))))))
/-- a list of ints from a list of ints -/
theorem lc_ints {mi : Ix} {g : Gx} {t : Tx} {m : Ex} {vs : List Nat} {env : Env} {st st1 : Sto} {xs : List Int} {gd : List (Nat × Ob)} {p : Int → Bool} {f : Int → Int} (hmi : mi env st = .ok (ivs xs, gd) st1) (hgd : ∀ q ∈ gd, st1[q.1]? = some q.2) (hl : xs.length < 16777216)
    (hs : ∀ x s, ∃ env1, g (.int x) (wipeE env vs) = some env1 ∧ t env1 s = .ok (p x) s ∧ (p x = true → m env1 s = .ok (.int (f x)) s)) : eLc mi g t m vs env st = .ok (.loc st1.length) (st1 ++ [Ob.lst (ivs ((xs.filter p).map f))]) := by
  rw [eLc_eq, hmi, R.bind_ok]
  have key : ∀ (ys acc : List Int), acc.length + ys.length ≤ xs.length → lcL gd g t m (wipeE env vs) st1.length (ivs ys) (st1 ++ [Ob.lst (ivs acc)]) = .ok () (st1 ++ [Ob.lst (ivs (acc ++ (ys.filter p).map f))]) := by
    intro ys
    have hg : ∀ (o : Ob), ∀ q ∈ gd, (st1 ++ [o])[q.1]? = some q.2 := fun o q hq => by
      rw [List.getElem?_append_left (List.getElem?_eq_some_iff.mp (hgd q hq)).1]; exact hgd q hq
    induction ys with
    | nil =>
      intro acc _
      rw [ivs_nil]
      unfold lcL
      rw [if_pos (hg _)]
      simp
    | cons y r ih =>
      intro acc hacc
      obtain ⟨env1, h1, h2, h3⟩ := hs y (st1 ++ [Ob.lst (ivs acc)])
      rw [ivs_cons]
      unfold lcL
      rw [if_pos (hg _), h1]
      simp only [h2, noErR, R.bind_ok]
      cases q : p y with
      | false =>
        rw [if_neg (by simp)]
        have := ih acc (by simp only [List.length_cons] at hacc; omega)
        rw [this, List.filter_cons, q]
        simp
      | true =>
        rw [if_pos rfl, h3 q]
        have e1 : (st1 ++ [Ob.lst (ivs acc)])[st1.length]? = some (.lst (ivs acc)) := at_new
        simp only [R.bind_ok, e1]
        rw [if_pos (by rw [ivs_length]; simp only [List.length_cons] at hacc; omega)]
        have e2 : (st1 ++ [Ob.lst (ivs acc)]).set st1.length (.lst (ivs acc ++ [.int (f y)])) = st1 ++ [Ob.lst (ivs (acc ++ [f y]))] := by
          rw [List.set_append_right _ _ (Nat.le_refl _), ivs_append]
          simp
        have := ih (acc ++ [f y]) (by simp only [List.length_cons] at hacc; rw [List.length_append]; simp only [List.length_cons, List.length_nil]; omega)
        rw [e2, this, List.filter_cons, q]
        simp
  have := key xs [] (by simp)
  rw [ivs_nil] at this
  rw [this]
  simp
theorem iSeq_at {st : Sto} {a : Ex} {env : Env} {l : Nat} {xs : List Val} {st1 : Sto} (h : a env st = .ok (.loc l) st1) (hl : st1[l]? = some (.lst xs)) : iSeq a env st = .ok (xs, [(l, .lst xs)]) st1 := by
  unfold iSeq
  rw [h, R.bind_ok]
  simp only [hl]
theorem mix_loop {st : Sto} {v l : Val} {gd : List (Nat × Ob)} {A M C : Int} {D : Dn} {b0 : Option Val} (hgd : ∀ q ∈ gd, st[q.1]? = some q.2) (hA : 0 ≤ A) (hA2 : A < 4294967296) (hM : 0 < M) (hC : 0 ≤ C) : ∀ (xs : List Int) (mix : Int) (e2 : Option Val), (∀ x ∈ xs, 0 ≤ x) → 0 ≤ mix → mix < 2147483647 →
    (∀ e2 mix, 0 ≤ mix → mix < 2147483647 → D.nx [some v, b0, e2, some l, some (.int mix)] st) →
    OkS (forL gd (gNm 2) (sAsg (eOp oMod (eCall (one' oInt1) (aCons (eOp oAdd (eOp oAdd (eOp oMul (eVar 4) (eC (.int A))) (eOp oMod (eVar 2) (eC (.int M)))) (eC (.int C))) aNil)) (eC (.int 2147483647))) (gNm 4)) (ivs xs) [some v, b0, e2, some l, some (.int mix)] st) D
  | [], mix, e2, _, h1, h2, h => by
    unfold forL
    rw [ivs_nil]
    simp only
    rw [if_pos hgd]
    exact h e2 mix h1 h2
  | x :: r, mix, e2, hx, h1, h2, h => by
    have m1 : oMul (.int mix) (.int A) st = .ok (.int (mix * A)) st := oMul_int (a := 31) (b := 32) (by omega) (by omega) (by decide)
    unfold forL
    rw [ivs_cons]
    simp only
    rw [if_pos hgd]
    have g1 : gNm 2 (.int x) [some v, b0, e2, some l, some (.int mix)] = some [some v, b0, some (.int x), some l, some (.int mix)] := rfl
    have body : (sAsg (eOp oMod (eCall (one' oInt1) (aCons (eOp oAdd (eOp oAdd (eOp oMul (eVar 4) (eC (.int A))) (eOp oMod (eVar 2) (eC (.int M)))) (eC (.int C))) aNil)) (eC (.int 2147483647))) (gNm 4)) [some v, b0, some (.int x), some l, some (.int mix)] st = .nx [some v, b0, some (.int x), some l, some (.int ((mix * A + x % M + C) % 2147483647))] st := by
      simp [m1, oInt_eq, hM, oAdd_int, one', oInt1]
    simp only [g1, onG, body]
    exact mix_loop hgd hA hA2 hM hC r _ _ (fun y hy => hx y (List.mem_cons_of_mem _ hy)) (Int.emod_nonneg _ (by decide)) (Int.emod_lt_of_pos _ (by decide)) h
theorem deal_ok {ini : Ex} {A M C base : Int} {ns : List Int} (hA : 0 ≤ A) (hA2 : A < 4294967296) (hM : 0 < M) (hC : 0 ≤ C) (hini : ∀ e2 e3 st, ∃ v, ini [some (.scr ns), some (.int base), e2, e3, none] st = .ok (.int v) st ∧ 0 ≤ v ∧ v < 2147483647) :
    Ok (runB 5 (dealB ini A M C) [.scr ns, .int base] []) fun v s => ∃ d c, v = .loc d ∧ Deal s d c := by
  unfold dealB
  rw [Ok_run]
  simp only [List.map_cons, List.map_nil, List.length_cons, List.length_nil, List.cons_append, List.nil_append, List.replicate]
  have s0 : eSl (eVar 0) oNoP (oPart (eC (.int 63))) [some (.scr ns), some (.int base), none, none, none] [] = .ok (.loc 0) [Ob.lst (ivs (cutL ns none (some 63)))] := by
    have e : cutL (ns.map Val.int) none (some 63) = ivs (cutL ns none (some 63)) := by unfold cutL ivs; rw [List.map_take, List.map_drop, List.length_map]
    simp [tupOf, lstOf, e]
  have hc63 : (cutL ns none (some 63)).length ≤ 63 := by
    unfold cutL
    have : HT.sIx ns.length ns.length (some ((63 : Nat) : Int)) = min 63 ns.length := HT.sIx_nat _ _ _
    rw [List.length_take, show HT.sIx ns.length ns.length (some 63) = min 63 ns.length from this]
    omega
  have l1 : eLc (iSeq (eSl (eVar 0) oNoP (oPart (eC (.int 63))))) (gNm 2) tYes' (eCall (one' oAbs) (aCons (eCall (one' oInt1) (aCons (eVar 2) aNil)) aNil)) [2] [some (.scr ns), some (.int base), none, none, none] [] =
      .ok (.loc 1) ([Ob.lst (ivs (cutL ns none (some 63)))] ++ [Ob.lst (ivs (((cutL ns none (some 63)).filter fun _ => true).map fun x => if x < 0 then -x else x))]) :=
    lc_ints (st1 := [Ob.lst (ivs (cutL ns none (some 63)))]) (iSeq_at s0 rfl) (fun q hq => by rw [List.mem_singleton.mp hq]; rfl) (by omega) fun x s => ⟨_, rfl, rfl, fun _ => by simp [wipeE, one', oInt1, oAbs]⟩
  have fl : ((cutL ns none (some 63)).filter fun _ => true) = cutL ns none (some 63) := List.filter_eq_self.mpr fun _ _ => rfl
  rw [fl] at l1
  generalize hcs : (cutL ns none (some 63)).map (fun x => if x < 0 then -x else x) = cs at l1
  have hc0 : ∀ x ∈ cs, 0 ≤ x := fun x hx => by
    rw [← hcs] at hx
    obtain ⟨y, _, e⟩ := List.mem_map.mp hx
    subst e
    split <;> omega
  have hcl : cs.length ≤ 63 := by rw [← hcs, List.length_map]; exact hc63
  generalize hst : ([Ob.lst (ivs (cutL ns none (some 63)))] ++ [Ob.lst (ivs cs)] : Sto) = st at l1
  have h1 : st[1]? = some (.lst (ivs cs)) := by rw [← hst]; rfl
  obtain ⟨v0, i1, i2, i3⟩ := hini none (some (.loc 1)) st
  rw [seq_asg, l1, Ok_ok, seq_asg]
  simp only [List.set_cons_succ, List.set_cons_zero]
  rw [i1, Ok_ok, seq_for]
  simp only [List.set_cons_succ, List.set_cons_zero]
  rw [iSeq_at (l := 1) (xs := ivs cs) (st1 := st) rfl h1, Ok_ok]
  refine mix_loop (fun q hq => by rw [List.mem_singleton.mp hq]; exact h1) hA hA2 hM hC cs v0 none hc0 i2 i3 fun e2 mix m1 m2 => ?_
  have l2 : ∀ env : Env, env = [some (.scr ns), some (.int base), e2, some (.loc 1), some (.int mix)] → eLc (iSeq (eVar 3)) (gNm 2) (tVal (eOp oGe (eVar 2) (eOp oPow (eC (.int 10)) (eC (.int 18))))) (eVar 2) [2] env st = .ok (.loc st.length) (st ++ [Ob.lst (ivs ((cs.filter fun x => decide ((10 : Int) ^ (18 : Int).toNat ≤ x)).map fun x => x))]) := by
    intro env he
    subst he
    refine lc_ints (st1 := st) (iSeq_at (l := 1) rfl h1) (fun q hq => by rw [List.mem_singleton.mp hq]; exact h1) (by omega) fun x s => ⟨[some (.scr ns), some (.int base), some (.int x), some (.loc 1), some (.int mix)], rfl, ?_, fun _ => rfl⟩
    simp [oInt_eq]
  generalize hds : ((cs.filter fun x => decide ((10 : Int) ^ (18 : Int).toNat ≤ x)).map fun x => x) = ds at l2
  have hd0 : ∀ x ∈ ds.reverse, 0 ≤ x := fun x hx => by
    rw [← hds] at hx
    simp only [List.mem_reverse, List.map_id'] at hx
    exact hc0 x (List.mem_filter.mp hx).1
  have hdl : ds.reverse.length ≤ 63 := by
    rw [← hds, List.length_reverse, List.length_map]
    exact Nat.le_trans (List.length_filter_le _ _) hcl
  have r1 : lstOf (st ++ [Ob.lst (ivs ds)]) (.loc st.length) = some (ivs ds) := by
    unfold lstOf
    simp only [at_new]
  have r2 : (ivs ds).reverse = ivs ds.reverse := by unfold ivs; rw [List.map_reverse]
  have e1 : eRev (eLc (iSeq (eVar 3)) (gNm 2) (tVal (eOp oGe (eVar 2) (eOp oPow (eC (.int 10)) (eC (.int 18))))) (eVar 2) [2]) [some (.scr ns), some (.int base), e2, some (.loc 1), some (.int mix)] st = .ok (.loc (st.length + 1)) (st ++ [Ob.lst (ivs ds)] ++ [Ob.lst (ivs ds.reverse)]) := by
    rw [eRev_eq, l2 _ rfl, R.bind_ok]
    show (match lstOf (st ++ [Ob.lst (ivs ds)]) (.loc st.length) with | some xs => R.ok (Val.loc (st ++ [Ob.lst (ivs ds)]).length) ((st ++ [Ob.lst (ivs ds)]) ++ [Ob.lst xs.reverse]) | none => R.stuck) = _
    rw [r1]
    simp only [r2]
    rw [List.length_append]
    rfl
  simp only
  rw [OkS_ret, eLst_eq, aCons_eq, e1, R.bind_ok, aCons_eq]
  have e4 : eVar 4 [some (.scr ns), some (.int base), e2, some (.loc 1), some (.int mix)] (st ++ [Ob.lst (ivs ds)] ++ [Ob.lst (ivs ds.reverse)]) = .ok (.int mix) (st ++ [Ob.lst (ivs ds)] ++ [Ob.lst (ivs ds.reverse)]) := rfl
  rw [e4]
  simp only [aNil_eq, R.bind_ok, List.length_cons, List.length_nil]
  rw [if_pos (by decide), Ok_ok]
  refine ⟨_, st.length + 1, rfl, ds.reverse.length, hdl, ⟨mix, at_new, m1, m2⟩, ⟨ds.reverse, ?_, hd0, rfl⟩, by simp⟩
  have hz : st.length + 1 = (st ++ [Ob.lst (ivs ds)]).length := by simp
  rw [List.getElem?_append_left (by simp), hz]
  exact at_new
end Sm

/-! The Sim layer, part 20: data, and what repr shows of it. -/
namespace Sm
open PySem L2
/-- x as data, at most k deep -/
def Pd (k : Nat) (st : Sto) (x : Val) (d : PyData) : Prop := ∀ n, k ≤ n → pd st n x = some d
def PdA (k : Nat) (st : Sto) (xs : List Val) (ds : List PyData) : Prop := ∀ n, k ≤ n → xs.mapM (pd st n) = some ds
theorem Pd.int {st : Sto} (i : Int) : Pd 0 st (.int i) (.int i) := fun n _ => by cases n <;> rfl
theorem Pd.non {st : Sto} : Pd 0 st .non .none := fun n _ => by cases n <;> rfl
theorem Pd.bl {st : Sto} (b : Bool) : Pd 0 st (.bl b) (.bool b) := fun n _ => by cases n <;> rfl
theorem Pd.str {st : Sto} (s : Str) : Pd 0 st (.str s) (.str s) := fun n _ => by cases n <;> rfl
theorem Pd.mono {k j : Nat} {st : Sto} {x : Val} {d : PyData} (h : Pd k st x d) (hk : k ≤ j) : Pd j st x d := fun n hn => h n (Nat.le_trans hk hn)
theorem PdA.mono {k j : Nat} {st : Sto} {x : List Val} {d : List PyData} (h : PdA k st x d) (hk : k ≤ j) : PdA j st x d := fun n hn => h n (Nat.le_trans hk hn)
theorem PdA.nil {k : Nat} {st : Sto} : PdA k st [] [] := fun _ _ => rfl
theorem PdA.cons {k : Nat} {st : Sto} {x : Val} {xs : List Val} {d : PyData} {ds : List PyData} (h : Pd k st x d) (t : PdA k st xs ds) : PdA k st (x :: xs) (d :: ds) := fun n hn => by
  rw [List.mapM_cons, h n hn, t n hn]; rfl
theorem PdA.ivs {k : Nat} {st : Sto} (xs : List Int) : PdA k st (Sm.ivs xs) (xs.map PyData.int) := fun n _ => mapM_pd_ivs st n xs
theorem PdA.append {k : Nat} {st : Sto} {xs ys : List Val} {ds es : List PyData} (h : PdA k st xs ds) (t : PdA k st ys es) : PdA k st (xs ++ ys) (ds ++ es) := fun n hn => by
  rw [List.mapM_append, h n hn, t n hn]; rfl
theorem Pd.tup {k : Nat} {st : Sto} {xs : List Val} {ds : List PyData} (h : PdA k st xs ds) : Pd (k + 1) st (.tup xs) (.tuple ds) := fun n hn => by
  obtain ⟨m, rfl⟩ : ∃ m, n = m + 1 := ⟨n - 1, by omega⟩
  show (xs.mapM (pd st m)).map PyData.tuple = _
  rw [h m (by omega)]; rfl
theorem Pd.kt {k : Nat} {st : Sto} {xs : List Val} {ds : List PyData} (h : PdA k st xs ds) : Pd (k + 1) st (.kt xs) (.tuple ds) := fun n hn => by
  obtain ⟨m, rfl⟩ : ∃ m, n = m + 1 := ⟨n - 1, by omega⟩
  show (xs.mapM (pd st m)).map PyData.tuple = _
  rw [h m (by omega)]; rfl
theorem Pd.lst {k l : Nat} {st : Sto} {xs : List Val} {ds : List PyData} (hl : st[l]? = some (.lst xs)) (h : PdA k st xs ds) : Pd (k + 1) st (.loc l) (.list ds) := fun n hn => by
  obtain ⟨m, rfl⟩ : ∃ m, n = m + 1 := ⟨n - 1, by omega⟩
  show (match st[l]? with | some (.lst xs) => (xs.mapM (pd st m)).map PyData.list | _ => none) = _
  rw [hl]
  show (xs.mapM (pd st m)).map PyData.list = _
  rw [h m (by omega)]; rfl
/-- small data -/
structure SB (n m : Nat) (d : PyData) : Prop where
  s : d.showable = true
  l : d.leavesShort 60 = true
  h : d.hasDict = false
  dp : d.depth ≤ n
  b : d.bulk ≤ m
structure SBs (n m : Nat) (ds : List PyData) : Prop where
  s : PyData.showableAll ds = true
  l : PyData.leavesShortAll 60 ds = true
  h : PyData.hasDictAll ds = false
  dp : PyData.depthAll ds ≤ n
  b : PyData.bulkAll ds ≤ m
theorem SB.mono {n m n' m' : Nat} {d : PyData} (h : SB n m d) (h1 : n ≤ n') (h2 : m ≤ m') : SB n' m' d := ⟨h.s, h.l, h.h, Nat.le_trans h.dp h1, Nat.le_trans h.b h2⟩
theorem SBs.mono {n m n' m' : Nat} {d : List PyData} (h : SBs n m d) (h1 : n ≤ n') (h2 : m ≤ m') : SBs n' m' d := ⟨h.s, h.l, h.h, Nat.le_trans h.dp h1, Nat.le_trans h.b h2⟩
theorem log2_small {n : Nat} (h : n < 10 ^ 50) : n.log2 < 1920 := by
  by_cases hz : n = 0
  · subst hz; decide
  · exact (Nat.log2_lt hz).mpr (Nat.lt_of_lt_of_le h (Nat.le_trans (by decide : 10 ^ 50 ≤ 2 ^ 167) (Nat.pow_le_pow_right (by decide) (by decide))))
theorem SB.int {i : Int} (h0 : 0 ≤ i) (h : i < 10 ^ 50) : SB 1 0 (.int i) := by
  refine ⟨?_, ?_, by simp [PyData.hasDict], by simp [PyData.depth], by simp [PyData.bulk]⟩
  · simp only [PyData.showable]
    exact decide_eq_true (log2_small (by omega))
  · simp only [PyData.leavesShort, PyData.shown]
    exact decide_eq_true (Nat.le_trans (PyProof.Rows.toString_length_le h0 (by decide) h) (by decide))
theorem SB.neg1 : SB 1 0 (.int (-1)) := by
  refine ⟨by decide +kernel, by decide +kernel, by simp [PyData.hasDict], by simp [PyData.depth], by simp [PyData.bulk]⟩
theorem SB.non : SB 1 0 .none := ⟨by simp [PyData.showable], by simp [PyData.leavesShort], by simp [PyData.hasDict], by simp [PyData.depth], by simp [PyData.bulk]⟩
theorem SB.bl (b : Bool) : SB 1 0 (.bool b) := ⟨by simp [PyData.showable], by simp [PyData.leavesShort], by simp [PyData.hasDict], by simp [PyData.depth], by simp [PyData.bulk]⟩
theorem SB.str {s : Str} (h : (PyData.leavesShort 60 (.str s)) = true) (h2 : s.cps.size ≤ 100) : SB 1 100 (.str s) := ⟨by simp [PyData.showable], h, by simp [PyData.hasDict], by simp [PyData.depth], by simp only [PyData.bulk]; exact h2⟩
theorem SBs.nil : SBs 1 0 [] := ⟨by simp [PyData.showableAll], by simp [PyData.leavesShortAll], by simp [PyData.hasDictAll], by simp [PyData.depthAll], by simp [PyData.bulkAll]⟩
theorem SBs.cons {n m n' m' : Nat} {d : PyData} {ds : List PyData} (h : SB n m d) (t : SBs n' m' ds) : SBs (max n n') (m + 1 + m') (d :: ds) := by
  have h1 := h.dp
  have h2 := t.dp
  have h3 := h.b
  have h4 := t.b
  refine ⟨by simp [PyData.showableAll, h.s, t.s], by simp [PyData.leavesShortAll, h.l, t.l], by simp [PyData.hasDictAll, h.h, t.h], ?_, ?_⟩
  · simp only [PyData.depthAll]
    omega
  · simp only [PyData.bulkAll]
    omega
theorem SBs.ivs : ∀ {xs : List Int}, (∀ x ∈ xs, 0 ≤ x ∧ x < 10 ^ 50) → SBs 1 xs.length (xs.map PyData.int)
  | [], _ => .nil
  | x :: xs, h => by
    have := SBs.cons (SB.int (h x List.mem_cons_self).1 (h x List.mem_cons_self).2) (SBs.ivs (xs := xs) fun y hy => h y (List.mem_cons_of_mem _ hy))
    exact this.mono (by simp) (by simp only [List.length_cons]; omega)
theorem SB.tup {n m : Nat} {ds : List PyData} (h : SBs n m ds) : SB (n + 1) m (.tuple ds) := by
  have h1 := h.dp
  refine ⟨by simp [PyData.showable, h.s], by simp [PyData.leavesShort, h.l], by simp [PyData.hasDict, h.h], ?_, by simp only [PyData.bulk]; exact h.b⟩
  simp only [PyData.depth]
  omega
theorem SB.lst {n m : Nat} {ds : List PyData} (h : SBs n m ds) : SB (n + 1) m (.list ds) := by
  have h1 := h.dp
  refine ⟨by simp [PyData.showable, h.s], by simp [PyData.leavesShort, h.l], by simp [PyData.hasDict, h.h], ?_, by simp only [PyData.bulk]; exact h.b⟩
  simp only [PyData.depth]
  omega
theorem SB.fits {n m : Nat} {d : PyData} (h : SB n m d) (hm : m ≤ 200000) : d.shown.length ≤ 16777216 := by
  have := PyData.shown_le_bulk 60 (by decide) d h.l
  have hb := h.b
  omega
theorem repr_ok {k n m : Nat} {st : Sto} {x : Val} {d : PyData} (h : Pd k st x d) (s : SB n m d) (hk : k ≤ 40) (hn : n ≤ 60) (hm : m ≤ 200000) : oRepr x st = .ok (.str d.shown) st := by
  unfold oRepr
  rw [h deep hk]
  have h1 := s.dp
  simp only [s.s, s.h, Bool.not_false, Bool.true_and, Bool.and_true]
  rw [if_pos]
  rw [Bool.and_eq_true, decide_eq_true_eq, decide_eq_true_eq]
  exact ⟨by omega, s.fits hm⟩
theorem oEq_str (neg : Bool) (a b : Str) (st : Sto) : oEq neg (.str a) (.str b) st = .ok (.bl (if neg then !decide (a = b) else decide (a = b))) st := rfl
end Sm

/-! The Sim layer, part 21: Ok of the combinators. -/
namespace Sm
open PySem L2
theorem Ok_callF (m : Fx) (ord : List (Nat ⊕ Nat)) (dvs : List Val) (aa : Ax) (env : Env) (st : Sto) (Q : Val → Sto → Prop) : Ok (eCallF m ord dvs aa env st) Q = Ok (aa env st) fun xs s => Ok (m (arr .non ord xs dvs) s) Q := by rw [eCallF_eq, Ok_bind]
theorem Ok_aCons (a : Ex) (r : Ax) (env : Env) (st : Sto) (Q : List Val → Sto → Prop) : Ok (aCons a r env st) Q = Ok (a env st) fun x s1 => Ok (r env s1) fun xs s2 => Q (x :: xs) s2 := by
  rw [aCons_eq, Ok_bind]
  congr 1
  funext x s
  rw [Ok_bind]
  rfl
theorem Ok_aNil (env : Env) (st : Sto) (Q : List Val → Sto → Prop) : Ok (aNil env st) Q = Q [] st := rfl
theorem Ok_aApp (a b : Ax) (env : Env) (st : Sto) (Q : List Val → Sto → Prop) : Ok (aApp a b env st) Q = Ok (a env st) fun xs s1 => Ok (b env s1) fun ys s2 => Q (xs ++ ys) s2 := by
  rw [aApp_eq, Ok_bind]
  congr 1
  funext x s
  rw [Ok_bind]
  rfl
theorem Ok_op (o : Val → Val → Sto → R Val) (a b : Ex) (env : Env) (st : Sto) (Q : Val → Sto → Prop) : Ok (eOp o a b env st) Q = Ok (a env st) fun x s1 => Ok (b env s1) fun y s2 => Ok (o x y s2) Q := by
  rw [eOp_eq, Ok_bind]
  congr 1
  funext x s
  rw [Ok_bind]
theorem Ok_un (o : Val → Sto → R Val) (a : Ex) (env : Env) (st : Sto) (Q : Val → Sto → Prop) : Ok (eUn o a env st) Q = Ok (a env st) fun x s1 => Ok (o x s1) Q := by rw [eUn_eq, Ok_bind]
theorem Ok_call (o : List Val → Sto → R Val) (a : Ax) (env : Env) (st : Sto) (Q : Val → Sto → Prop) : Ok (eCall o a env st) Q = Ok (a env st) fun x s1 => Ok (o x s1) Q := by rw [eCall_eq, Ok_bind]
theorem Ok_C (v : Val) (env : Env) (st : Sto) (Q : Val → Sto → Prop) : Ok (eC v env st) Q = Q v st := rfl
theorem Ok_tup (a : Ax) (env : Env) (st : Sto) (Q : Val → Sto → Prop) : Ok (eTup a env st) Q = Ok (a env st) fun xs s => xs.length ≤ 16777216 ∧ Q (.tup xs) s := by
  rw [eTup_eq, Ok_bind]
  congr 1
  funext x s
  by_cases h : x.length ≤ 16777216
  · rw [if_pos h]; simp [h]
  · rw [if_neg h]; simp [h]
theorem Ok_lst (a : Ax) (env : Env) (st : Sto) (Q : Val → Sto → Prop) : Ok (eLst a env st) Q = Ok (a env st) fun xs s => xs.length ≤ 16777216 ∧ Q (.loc s.length) (s ++ [Ob.lst xs]) := by
  rw [eLst_eq, Ok_bind]
  congr 1
  funext x s
  by_cases h : x.length ≤ 16777216
  · rw [if_pos h]; simp [h]
  · rw [if_neg h]; simp [h]
theorem Ok_var {i : Nat} {env : Env} {st : Sto} {Q : Val → Sto → Prop} {v : Val} (h : env[i]? = some (some v)) (hv : okV v = true) : Ok (eVar i env st) Q = Q v st := by rw [eVar_eq, h, getV_ok hv]; rfl
theorem Ok_varI (i : Nat) (env : Env) (st : Sto) (Q : Val → Sto → Prop) : Ok (eVar i env st) Q = Ok (getV env[i]? st) Q := by rw [eVar_eq]
theorem Ok_tVal (a : Ex) (env : Env) (st : Sto) (Q : Bool → Sto → Prop) : Ok (tVal a env st) Q = Ok (a env st) fun x s => ∃ b, x = .bl b ∧ Q b s := by
  rw [tVal_eq, Ok_bind]
  congr 1
  funext x s
  cases x <;> simp [ifB]
theorem Ok_if (c : Tx) (a b : Ex) (env : Env) (st : Sto) (Q : Val → Sto → Prop) : Ok (eIf c a b env st) Q = Ok (c env st) fun q s => if q = true then Ok (a env s) Q else Ok (b env s) Q := by
  rw [eIf_eq, Ok_bind]
  congr 1
  funext x s
  cases x <;> rfl
theorem Ok_lm (o : Val → List Val → Sto → R Val) (mo : Ex) (aa : Ax) (env : Env) (st : Sto) (Q : Val → Sto → Prop) : Ok (eLm o mo aa env st) Q = Ok (mo env st) fun x s => isL s x = true ∧ Ok (aa env s) fun xs s2 => Ok (o x xs s2) Q := by
  rw [eLm_eq, Ok_bind]
  congr 1
  funext x s
  by_cases h : isL s x = true
  · rw [if_pos h, Ok_bind]; simp [h]
  · rw [if_neg h]; simp [h]
theorem any_call {m : Fx} (hm : AnyOk m) {b : Int} {st : Sto} {d c : Nat} {Q : Val → Sto → Prop} (h : Deal st d c) (hb : 0 < b) (hb2 : b.natAbs.log2 < 9000) (k : ∀ r s, 0 ≤ r → r < b → Deal s d c → Fr d c st s → Q (.int r) s) : Ok (m [.loc d, .int b] st) Q :=
  (hm b st d c h hb hb2).imp fun v s ⟨r, e, h1, h2, h3, h4⟩ => by subst e; exact k r s h1 h2 h3 h4
end Sm

/-! The Sim layer, part W: what is wanted behind mirrors, errors too; steps for simp. -/
namespace Sm
open PySem L2
def Wp {α : Type} (r : R α) (Q : α → Sto → Prop) (E : Xn → Sto → Prop) : Prop := match r with
  | .ok a st => Q a st
  | .err x st => E x st
  | .stuck => False
structure Dx where
  nx : Env → Sto → Prop
  rt : Val → Sto → Prop
  bk : Env → Sto → Prop
  ct : Env → Sto → Prop
  er : Xn → Env → Sto → Prop
def WpS (r : SR) (D : Dx) : Prop := match r with
  | .nx e st => D.nx e st
  | .rt v st => D.rt v st
  | .bk e st => D.bk e st
  | .ct e st => D.ct e st
  | .er x e st => D.er x e st
  | .stuck => False
abbrev noX : Xn → Sto → Prop := fun _ _ => False
section
variable {α β : Type} {Q Q' : α → Sto → Prop} {E E' : Xn → Sto → Prop} {D D' : Dx} {env : Env} {st : Sto}
theorem Wp_ok (a : α) (st : Sto) : Wp (.ok a st) Q E = Q a st := propext Iff.rfl
theorem Wp_err (x : Xn) (st : Sto) : Wp (.err x st : R α) Q E = E x st := propext Iff.rfl
theorem Wp_stuck : Wp (.stuck : R α) Q E = False := propext Iff.rfl
theorem WpS_nx (e : Env) (st : Sto) : WpS (.nx e st) D = D.nx e st := propext Iff.rfl
theorem WpS_rt (v : Val) (st : Sto) : WpS (.rt v st) D = D.rt v st := propext Iff.rfl
theorem WpS_bk (e : Env) (st : Sto) : WpS (.bk e st) D = D.bk e st := propext Iff.rfl
theorem WpS_ct (e : Env) (st : Sto) : WpS (.ct e st) D = D.ct e st := propext Iff.rfl
theorem WpS_er (x : Xn) (e : Env) (st : Sto) : WpS (.er x e st) D = D.er x e st := propext Iff.rfl
theorem WpS_stuck : WpS .stuck D = False := rfl
theorem Wp.imp {r : R α} (h : Wp r Q E) (f : ∀ a s, Q a s → Q' a s) (g : ∀ x s, E x s → E' x s) : Wp r Q' E' := by
  cases r with
  | ok a s => exact f a s h
  | err x s => exact g x s h
  | stuck => exact h
/-- no error is met, or it goes where it goes -/
theorem Wp.mono {r : R α} (h : Wp r Q noX) (f : ∀ a s, Q a s → Q' a s) : Wp r Q' E' := h.imp f fun _ _ z => z.elim
theorem WpS.imp {r : SR} (h : WpS r D) (h1 : ∀ e s, D.nx e s → D'.nx e s) (h2 : ∀ v s, D.rt v s → D'.rt v s) (h3 : ∀ e s, D.bk e s → D'.bk e s) (h4 : ∀ e s, D.ct e s → D'.ct e s) (h5 : ∀ x e s, D.er x e s → D'.er x e s) : WpS r D' := by
  cases r with
  | nx e s => exact h1 e s h
  | rt e s => exact h2 e s h
  | bk e s => exact h3 e s h
  | ct e s => exact h4 e s h
  | er x e s => exact h5 x e s h
  | stuck => exact h
theorem Wp_bind (r : R β) (f : β → Sto → R α) : Wp (r.bind f) Q E = Wp r (fun a s => Wp (f a s) Q E) E := by cases r <;> rfl
theorem WpS_to (r : R β) (env : Env) (f : β → Sto → SR) : WpS (r.to env f) D = Wp r (fun a s => WpS (f a s) D) (fun x s => D.er x env s) := by cases r <;> rfl
theorem WpS_seq (a b : Sx) (env : Env) (st : Sto) : WpS (sSeq a b env st) D = WpS (a env st) { D with nx := fun e s => WpS (b e s) D } := by
  unfold sSeq
  cases a env st <;> rfl
theorem Wp_run (n : Nat) (b : Sx) (xs : List Val) (st : Sto) {Q : Val → Sto → Prop} : Wp (runB n b xs st) Q E = WpS (b (xs.map some ++ List.replicate (n - xs.length) none) st) ⟨fun _ s => Q .non s, Q, fun _ _ => False, fun _ _ => False, fun x _ s => E x s⟩ := by
  unfold runB
  cases b (xs.map some ++ List.replicate (n - xs.length) none) st <;> rfl
theorem Wp_ite (c : Prop) [Decidable c] (a b : R α) : Wp (if c then a else b) Q E = if c then Wp a Q E else Wp b Q E := by split <;> rfl
theorem WpS_ite (c : Prop) [Decidable c] (a b : SR) : WpS (if c then a else b) D = if c then WpS a D else WpS b D := by split <;> rfl
theorem Ok_wp {r : R α} : Ok r Q = Wp r Q noX := by cases r <;> rfl
theorem Wp_noErR (r : R α) : Wp (noErR r) Q E = Wp r Q noX := by cases r <;> rfl
theorem Wp_eq {r : R α} {a : α} {st : Sto} (h : Wp r (fun a' s => a' = a ∧ s = st) noX) : r = .ok a st := by
  cases r with
  | ok a' s => obtain ⟨h1, h2⟩ := h; rw [h1, h2]
  | _ => exact h.elim
theorem Wp_of {r : R α} {a : α} {s : Sto} (h : r = .ok a s) (q : Q a s) : Wp r Q E := by rw [h]; exact q
/-! ### expressions -/
theorem W_C (v : Val) (env : Env) (st : Sto) {Q : Val → Sto → Prop} : Wp (eC v env st) Q E = Q v st := propext Iff.rfl
theorem W_var (i : Nat) (env : Env) (st : Sto) {Q : Val → Sto → Prop} : Wp (eVar i env st) Q E = Wp (getV env[i]? st) Q E := by rw [eVar_eq]
theorem W_op (o : Val → Val → Sto → R Val) (a b : Ex) (env : Env) (st : Sto) {Q : Val → Sto → Prop} : Wp (eOp o a b env st) Q E = Wp (a env st) (fun x s1 => Wp (b env s1) (fun y s2 => Wp (o x y s2) Q E) E) E := by
  rw [eOp_eq, Wp_bind]; congr 1; funext x s; rw [Wp_bind]
theorem W_un (o : Val → Sto → R Val) (a : Ex) (env : Env) (st : Sto) {Q : Val → Sto → Prop} : Wp (eUn o a env st) Q E = Wp (a env st) (fun x s1 => Wp (o x s1) Q E) E := by rw [eUn_eq, Wp_bind]
theorem Wp_ifB (v : Val) (st : Sto) (f : Bool → Sto → R α) : Wp (ifB v st f) Q E = ∃ b, v = .bl b ∧ Wp (f b st) Q E := by
  apply propext
  constructor
  · intro h
    cases v with
    | bl b => exact ⟨b, rfl, h⟩
    | _ => exact h.elim
  · rintro ⟨b, rfl, h⟩; exact h
theorem W_and (a b : Ex) (env : Env) (st : Sto) {Q : Val → Sto → Prop} : Wp (eAnd a b env st) Q E = Wp (a env st) (fun x s => ∃ q, x = .bl q ∧ if q = true then Wp (b env s) Q E else Q (.bl false) s) E := by
  rw [eAnd_eq, Wp_bind]; congr 1; funext x s; rw [Wp_ifB]; congr 1; funext q; rw [Wp_ite]; rfl
theorem W_or (a b : Ex) (env : Env) (st : Sto) {Q : Val → Sto → Prop} : Wp (eOr a b env st) Q E = Wp (a env st) (fun x s => ∃ q, x = .bl q ∧ if q = true then Q (.bl true) s else Wp (b env s) Q E) E := by
  rw [eOr_eq, Wp_bind]; congr 1; funext x s; rw [Wp_ifB]; congr 1; funext q; rw [Wp_ite]; rfl
theorem W_not (a : Ex) (env : Env) (st : Sto) {Q : Val → Sto → Prop} : Wp (eNot a env st) Q E = Wp (a env st) (fun x s => ∃ q, x = .bl q ∧ Q (.bl (!q)) s) E := by
  rw [eNot_eq, Wp_bind]; congr 1; funext x s; rw [Wp_ifB]; rfl
theorem W_chain (o o' : Val → Val → Sto → R Val) (a b c : Ex) (env : Env) (st : Sto) {Q : Val → Sto → Prop} : Wp (eChain o o' a b c env st) Q E = Wp (a env st) (fun x s => Wp (b env s) (fun y s => Wp (o x y s) (fun z s => ∃ q, z = .bl q ∧ if q = true then Wp (c env s) (fun u s => Wp (o' y u s) Q E) E else Q (.bl false) s) E) E) E := by
  rw [eChain_eq, Wp_bind]; congr 1; funext x s; rw [Wp_bind]; congr 1; funext y s; rw [Wp_bind]; congr 1; funext z s; rw [Wp_ifB]; congr 1; funext q; rw [Wp_ite, Wp_bind]; rfl
theorem W_tVal (a : Ex) (env : Env) (st : Sto) {Q : Bool → Sto → Prop} : Wp (tVal a env st) Q E = Wp (a env st) (fun x s => ∃ q, x = .bl q ∧ Q q s) E := by
  rw [tVal_eq, Wp_bind]; congr 1; funext x s; rw [Wp_ifB]; rfl
theorem W_tAnd (a b : Tx) (env : Env) (st : Sto) {Q : Bool → Sto → Prop} : Wp (tAnd' a b env st) Q E = Wp (a env st) (fun q s => if q = true then Wp (b env s) Q E else Q false s) E := by
  rw [tAnd_eq, Wp_bind]; congr 1; funext x s; rw [Wp_ite]; rfl
theorem W_tOr (a b : Tx) (env : Env) (st : Sto) {Q : Bool → Sto → Prop} : Wp (tOr' a b env st) Q E = Wp (a env st) (fun q s => if q = true then Q true s else Wp (b env s) Q E) E := by
  rw [tOr_eq, Wp_bind]; congr 1; funext x s; rw [Wp_ite]; rfl
theorem W_tNot (a : Tx) (env : Env) (st : Sto) {Q : Bool → Sto → Prop} : Wp (tNot' a env st) Q E = Wp (a env st) (fun q s => Q (!q) s) E := by
  rw [tNot_eq, Wp_bind]; rfl
theorem W_tYes (env : Env) (st : Sto) {Q : Bool → Sto → Prop} : Wp (tYes' env st) Q E = Q true st := propext Iff.rfl
theorem W_if (c : Tx) (a b : Ex) (env : Env) (st : Sto) {Q : Val → Sto → Prop} : Wp (eIf c a b env st) Q E = Wp (c env st) (fun q s => if q = true then Wp (a env s) Q E else Wp (b env s) Q E) E := by
  rw [eIf_eq, Wp_bind]; congr 1; funext x s; rw [Wp_ite]
theorem W_aNil (env : Env) (st : Sto) {Q : List Val → Sto → Prop} : Wp (aNil env st) Q E = Q [] st := propext Iff.rfl
theorem W_aCons (a : Ex) (r : Ax) (env : Env) (st : Sto) {Q : List Val → Sto → Prop} : Wp (aCons a r env st) Q E = Wp (a env st) (fun x s => Wp (r env s) (fun xs s => Q (x :: xs) s) E) E := by
  rw [aCons_eq, Wp_bind]; congr 1; funext x s; rw [Wp_bind]; rfl
theorem W_aApp (a b : Ax) (env : Env) (st : Sto) {Q : List Val → Sto → Prop} : Wp (aApp a b env st) Q E = Wp (a env st) (fun xs s => Wp (b env s) (fun ys s => Q (xs ++ ys) s) E) E := by
  rw [aApp_eq, Wp_bind]; congr 1; funext x s; rw [Wp_bind]; rfl
theorem W_tup (a : Ax) (env : Env) (st : Sto) {Q : Val → Sto → Prop} : Wp (eTup a env st) Q E = Wp (a env st) (fun xs s => xs.length ≤ 16777216 ∧ Q (.tup xs) s) E := by
  rw [eTup_eq, Wp_bind]; congr 1; funext x s; rw [Wp_ite, Wp_ok, Wp_stuck]
  apply propext
  by_cases h : x.length ≤ 16777216 <;> simp [h]
theorem W_lst (a : Ax) (env : Env) (st : Sto) {Q : Val → Sto → Prop} : Wp (eLst a env st) Q E = Wp (a env st) (fun xs s => xs.length ≤ 16777216 ∧ Q (.loc s.length) (s ++ [Ob.lst xs])) E := by
  rw [eLst_eq, Wp_bind]; congr 1; funext x s; rw [Wp_ite, Wp_ok, Wp_stuck]
  apply propext
  by_cases h : x.length ≤ 16777216 <;> simp [h]
theorem W_call (o : List Val → Sto → R Val) (a : Ax) (env : Env) (st : Sto) {Q : Val → Sto → Prop} : Wp (eCall o a env st) Q E = Wp (a env st) (fun xs s => Wp (o xs s) Q E) E := by rw [eCall_eq, Wp_bind]
theorem W_callF (m : Fx) (ord : List (Nat ⊕ Nat)) (dvs : List Val) (aa : Ax) (env : Env) (st : Sto) {Q : Val → Sto → Prop} : Wp (eCallF m ord dvs aa env st) Q E = Wp (aa env st) (fun xs s => Wp (m (arr .non ord xs dvs) s) Q E) E := by rw [eCallF_eq, Wp_bind]
theorem W_lm (o : Val → List Val → Sto → R Val) (mo : Ex) (aa : Ax) (env : Env) (st : Sto) {Q : Val → Sto → Prop} : Wp (eLm o mo aa env st) Q E = Wp (mo env st) (fun x s => isL s x = true ∧ Wp (aa env s) (fun xs s => Wp (o x xs s) Q E) E) E := by
  rw [eLm_eq, Wp_bind]; congr 1; funext x s; rw [Wp_ite, Wp_bind, Wp_stuck]
  apply propext
  by_cases h : isL s x = true <;> simp [h]
/-- a slice, as an operation -/
def slO (x : Val) (l h : Option Int) (st : Sto) : R Val := match tupOf x with
  | some xs => .ok (if HT.sIx xs.length 0 l = 0 ∧ HT.sIx xs.length xs.length h = xs.length then x else .tup (cutL xs l h)) st
  | none => match lstOf st x with
    | some xs => .ok (.loc st.length) (st ++ [.lst (cutL xs l h)])
    | none => .stuck
theorem W_sl (o : Ex) (lo hi : Ox) (env : Env) (st : Sto) {Q : Val → Sto → Prop} : Wp (eSl o lo hi env st) Q E = Wp (o env st) (fun x s => Wp (lo env s) (fun l s => Wp (hi env s) (fun h s => Wp (slO x l h s) Q E) E) E) E := by
  rw [eSl_eq, Wp_bind]; congr 1; funext x s; rw [Wp_bind]; congr 1; funext l s; rw [Wp_bind]; rfl
theorem W_noP (env : Env) (st : Sto) {Q : Option Int → Sto → Prop} : Wp (oNoP env st) Q E = Q none st := propext Iff.rfl
theorem W_part (a : Ex) (env : Env) (st : Sto) {Q : Option Int → Sto → Prop} : Wp (oPart a env st) Q E = Wp (a env st) (fun x s => ∃ i, x = .int i ∧ Q (some i) s) E := by
  rw [oPart_eq, Wp_bind]; congr 1; funext x s
  apply propext
  cases x with
  | int i => exact ⟨fun h => ⟨i, rfl, h⟩, fun ⟨j, e, h⟩ => by cases e; exact h⟩
  | _ => exact ⟨fun h => h.elim, fun ⟨j, e, _⟩ => by cases e⟩
def revO (x : Val) (st : Sto) : R Val := match tupOf x with
  | some xs => .ok (.tup xs.reverse) st
  | none => match lstOf st x with
    | some xs => .ok (.loc st.length) (st ++ [.lst xs.reverse])
    | none => .stuck
theorem W_rev (o : Ex) (env : Env) (st : Sto) {Q : Val → Sto → Prop} : Wp (eRev o env st) Q E = Wp (o env st) (fun x s => Wp (revO x s) Q E) E := by rw [eRev_eq, Wp_bind]; rfl
theorem W_fld (f : Str) (o : Ex) (env : Env) (st : Sto) {Q : Val → Sto → Prop} : Wp (eFld f o env st) Q E = Wp (o env st) (fun y s => ∃ l c al fs v, y = .loc l ∧ s[l]? = some (.ins c al fs) ∧ fs.lookup f = some v ∧ Q v s) E := by
  unfold eFld
  rw [Wp_bind]; congr 1; funext y s
  apply propext
  constructor
  · intro h
    split at h
    · split at h
      · split at h
        · exact ⟨_, _, _, _, _, rfl, by assumption, by assumption, h⟩
        · exact h.elim
      · exact h.elim
    · exact h.elim
  · rintro ⟨l, c, al, fs, v, rfl, h1, h2, h3⟩
    simp only [h1, h2]
    exact h3
theorem W_meth (tbl : List (Str × MI)) (x : Str) (o : Ex) (aa : Ax) (env : Env) (st : Sto) {Q : Val → Sto → Prop} : Wp (eMeth tbl x o aa env st) Q E = Wp (o env st) (fun y s => ∃ l c al fs mi, y = .loc l ∧ s[l]? = some (.ins c al fs) ∧ tbl.lookup c = some mi ∧ al.contains x = false ∧ Wp (aa env s) (fun xs s => Wp (mi.m (arr .non mi.ord (.loc l :: xs) mi.dvs) s) Q E) E) E := by
  unfold eMeth
  rw [Wp_bind]; congr 1; funext y s
  apply propext
  constructor
  · intro h
    split at h
    · split at h
      · split at h
        · rw [Wp_ite] at h
          split at h
          · exact h.elim
          · rename_i hc
            rw [Wp_bind] at h
            exact ⟨_, _, _, _, _, rfl, by assumption, by assumption, by simpa using hc, h⟩
        · exact h.elim
      · exact h.elim
    · exact h.elim
  · rintro ⟨l, c, al, fs, mi, rfl, h1, h2, h3, h4⟩
    simp only [h1, h2, h3]
    rw [if_neg (by simp), Wp_bind]
    exact h4
theorem W_make (c : Str) (al : List Str) (mi : MI) (aa : Ax) (env : Env) (st : Sto) {Q : Val → Sto → Prop} : Wp (eMake c al mi aa env st) Q E = Wp (aa env st) (fun xs s => Wp (mi.m (arr .non mi.ord (.loc s.length :: xs) mi.dvs) (s ++ [.ins c al []])) (fun v s2 => v = .non ∧ Q (.loc s.length) s2) E) E := by
  unfold eMake
  rw [Wp_bind]; congr 1; funext xs s; rw [Wp_bind]; congr 1; funext v s2
  apply propext
  cases v with
  | non => exact ⟨fun h => ⟨rfl, h⟩, fun h => h.2⟩
  | _ => exact ⟨fun h => h.elim, fun h => nomatch h.1⟩
theorem W_callV (T : FTab) (i : Nat) (aa : Ax) (env : Env) (st : Sto) {Q : Val → Sto → Prop} : Wp (eCallV T i aa env st) Q E = ∃ f m, env[i]? = some (some (.fn f)) ∧ T.lookup f = some m ∧ Wp (aa env st) (fun xs s => Wp (m xs s) Q E) E := by
  apply propext
  unfold eCallV
  constructor
  · intro h
    split at h
    · split at h
      · rw [Wp_bind] at h
        exact ⟨_, _, by assumption, by assumption, h⟩
      · exact h.elim
    · exact h.elim
  · rintro ⟨f, m, h1, h2, h3⟩
    simp only [h1, h2]
    rw [Wp_bind]; exact h3
theorem W_xf (xf : Str → Str → Bool) (i : Nat) (f : Str) (env : Env) (st : Sto) {Q : Val → Sto → Prop} : Wp (eXf' xf i f env st) Q E = ∃ c fs v, env[i]? = some (some (.exc c fs)) ∧ xf c f = true ∧ fs.lookup f = some v ∧ Q v st := by
  apply propext
  unfold eXf'
  constructor
  · intro h
    split at h
    · rw [Wp_ite] at h
      split at h
      · split at h
        · exact ⟨_, _, _, by assumption, by assumption, by assumption, h⟩
        · exact h.elim
      · exact h.elim
    · exact h.elim
  · rintro ⟨c, fs, v, h1, h2, h3, h4⟩
    simp only [h1, h2, h3, if_true]
    exact h4
theorem W_xis (isx : Str → Str → Option Bool) (i : Nat) (t : Str) (env : Env) (st : Sto) {Q : Val → Sto → Prop} : Wp (eXis isx i t env st) Q E = ∃ c fs b, env[i]? = some (some (.exc c fs)) ∧ isx c t = some b ∧ Q (.bl b) st := by
  apply propext
  unfold eXis
  constructor
  · intro h
    split at h
    · split at h
      · exact ⟨_, _, _, by assumption, by assumption, h⟩
      · exact h.elim
    · exact h.elim
  · rintro ⟨c, fs, b, h1, h2, h3⟩
    simp only [h1, h2]
    exact h3
/-! ### statements -/
theorem W_nil (env : Env) (st : Sto) : WpS (sNil env st) D = D.nx env st := propext Iff.rfl
theorem W_brk (env : Env) (st : Sto) : WpS (sBrk env st) D = D.bk env st := propext Iff.rfl
theorem W_cnt (env : Env) (st : Sto) : WpS (sCnt env st) D = D.ct env st := propext Iff.rfl
theorem W_retN (env : Env) (st : Sto) : WpS (sRetN env st) D = D.rt .non st := propext Iff.rfl
theorem W_ret (a : Ex) (env : Env) (st : Sto) : WpS (sRet a env st) D = Wp (a env st) (fun v s => D.rt v s) (fun x s => D.er x env s) := by rw [sRet_eq, WpS_to]; rfl
theorem W_drop (a : Ex) (env : Env) (st : Sto) : WpS (sDrop a env st) D = Wp (a env st) (fun v s => D.nx env s) (fun x s => D.er x env s) := by rw [sDrop_eq, WpS_to]; rfl
theorem W_sif (c : Tx) (a b : Sx) (env : Env) (st : Sto) : WpS (sIf c a b env st) D = Wp (c env st) (fun q s => if q = true then WpS (a env s) D else WpS (b env s) D) (fun x s => D.er x env s) := by
  rw [sIf_eq, WpS_to]; congr 1; funext q s; rw [WpS_ite]
theorem W_asg (a : Ex) (i : Nat) (env : Env) (st : Sto) : WpS (sAsg a (gNm i) env st) D = Wp (a env st) (fun x s => D.nx (env.set i (some x)) s) (fun x s => D.er x env s) := by rw [sAsg_eq, WpS_to]; rfl
theorem W_asgG (a : Ex) (g : Gx) (env : Env) (st : Sto) : WpS (sAsg a g env st) D = Wp (a env st) (fun x s => ∃ e, g x env = some e ∧ D.nx e s) (fun x s => D.er x env s) := by
  unfold sAsg
  rw [WpS_to]; congr 1; funext x s
  apply propext
  cases g x env with
  | none => exact ⟨fun h => h.elim, fun ⟨e, h, _⟩ => nomatch h⟩
  | some e => exact ⟨fun h => ⟨e, rfl, h⟩, fun ⟨e', h, q⟩ => by cases h; exact q⟩
theorem W_par (i j : Nat) (a : Ax) (env : Env) (st : Sto) : WpS (sPar i j a env st) D = Wp (a env st) (fun xs s => ∃ x y, xs = [x, y] ∧ D.nx ((env.set i (some x)).set j (some y)) s) (fun x s => D.er x env s) := by
  rw [sPar_eq, WpS_to]; congr 1; funext xs s
  apply propext
  match xs with
  | [x, y] => exact ⟨fun h => ⟨x, y, rfl, h⟩, fun ⟨_, _, e, h⟩ => by cases e; exact h⟩
  | [] => exact ⟨fun h => h.elim, fun ⟨_, _, e, h⟩ => by cases e⟩
  | [_] => exact ⟨fun h => h.elim, fun ⟨_, _, e, h⟩ => by cases e⟩
  | _ :: _ :: _ :: _ => exact ⟨fun h => h.elim, fun ⟨_, _, e, h⟩ => by cases e⟩
theorem W_par3 (i j l : Nat) (a : Ax) (env : Env) (st : Sto) : WpS (sPar3 i j l a env st) D = Wp (a env st) (fun xs s => ∃ x y z, xs = [x, y, z] ∧ D.nx (((env.set i (some x)).set j (some y)).set l (some z)) s) (fun x s => D.er x env s) := by
  rw [sPar3_eq, WpS_to]; congr 1; funext xs s
  apply propext
  match xs with
  | [x, y, z] => exact ⟨fun h => ⟨x, y, z, rfl, h⟩, fun ⟨_, _, _, e, h⟩ => by cases e; exact h⟩
  | [] => exact ⟨fun h => h.elim, fun ⟨_, _, _, e, h⟩ => by cases e⟩
  | [_] => exact ⟨fun h => h.elim, fun ⟨_, _, _, e, h⟩ => by cases e⟩
  | [_, _] => exact ⟨fun h => h.elim, fun ⟨_, _, _, e, h⟩ => by cases e⟩
  | _ :: _ :: _ :: _ :: _ => exact ⟨fun h => h.elim, fun ⟨_, _, _, e, h⟩ => by cases e⟩
theorem W_sub (k : Val → Val → Val → Sto → R Unit) (o i a : Ex) (env : Env) (st : Sto) : WpS (sSub k o i a env st) D = Wp (a env st) (fun x s => Wp (o env s) (fun y s => Wp (i env s) (fun z s => Wp (k y z x s) (fun _ s => D.nx env s) (fun x s => D.er x env s)) (fun x s => D.er x env s)) (fun x s => D.er x env s)) (fun x s => D.er x env s) := by
  rw [sSub_eq, WpS_to]; congr 1; funext x s; rw [WpS_to]; congr 1; funext x s; rw [WpS_to]; congr 1; funext x s; rw [WpS_to]; rfl
theorem W_aug (i : Nat) (o : Val → Val → Sto → R Val) (a : Ex) (env : Env) (st : Sto) : WpS (sAug i o a env st) D = Wp (getV env[i]? st) (fun x s => Wp (a env s) (fun y s => Wp (o x y s) (fun z s => D.nx (env.set i (some z)) s) (fun x s => D.er x env s)) (fun x s => D.er x env s)) (fun x s => D.er x env s) := by
  rw [sAug_eq, WpS_to]
  have h0 : ∀ (x : Val) (s : Sto), getV env[i]? st = .ok x s → s = st := by
    intro x s h
    unfold getV at h
    split at h
    · cases h
    · cases h; rfl
    · cases h
  cases q : getV env[i]? st with
  | ok x s =>
    have e := h0 x s q
    subst e
    show WpS ((a env s).to env _) D = Wp (a env s) _ _
    rw [WpS_to]; congr 1; funext y s; rw [WpS_to]; rfl
  | err x s => rfl
  | stuck => rfl
theorem W_fldS (f : Str) (o a : Ex) (env : Env) (st : Sto) : WpS (sFldS f o a env st) D = Wp (a env st) (fun x s => Wp (o env s) (fun y s => ∃ l c al fs, y = .loc l ∧ s[l]? = some (.ins c al fs) ∧ al.contains f = true ∧ fs.length < 1000 ∧ D.nx env (s.set l (.ins c al (putV f x fs)))) (fun x s => D.er x env s)) (fun x s => D.er x env s) := by
  unfold sFldS
  rw [WpS_to]; congr 1; funext x s; rw [WpS_to]; congr 1; funext y s
  apply propext
  constructor
  · intro h
    split at h
    · split at h
      · rw [WpS_ite] at h
        split at h
        · rename_i hc
          exact ⟨_, _, _, _, rfl, by assumption, hc.1, hc.2, h⟩
        · exact h.elim
      · exact h.elim
    · exact h.elim
  · rintro ⟨l, c, al, fs, rfl, h1, h2, h3, h4⟩
    simp only [h1]
    rw [if_pos ⟨h2, h3⟩]
    exact h4
theorem W_fldA (f : Str) (op : Val → Val → Sto → R Val) (o a : Ex) (env : Env) (st : Sto) : WpS (sFldA f op o a env st) D = Wp (o env st) (fun y s => ∃ l c al fs x, y = .loc l ∧ s[l]? = some (.ins c al fs) ∧ fs.lookup f = some x ∧ Wp (a env s) (fun z s => Wp (op x z s) (fun u s => ∃ al' fs', s[l]? = some (.ins c al' fs') ∧ al'.contains f = true ∧ fs'.length < 1000 ∧ D.nx env (s.set l (.ins c al' (putV f u fs')))) (fun x s => D.er x env s)) (fun x s => D.er x env s)) (fun x s => D.er x env s) := by
  unfold sFldA
  rw [WpS_to]; congr 1; funext y s
  apply propext
  have inner : ∀ (l : Nat) (c : Str) (u : Val) (s3 : Sto), WpS (match s3[l]? with
        | some (.ins c' al' fs') => if c' = c ∧ al'.contains f ∧ fs'.length < 1000 then .nx env (s3.set l (.ins c al' (putV f u fs'))) else .stuck
        | _ => .stuck) D = ∃ al' fs', s3[l]? = some (.ins c al' fs') ∧ al'.contains f = true ∧ fs'.length < 1000 ∧ D.nx env (s3.set l (.ins c al' (putV f u fs'))) := by
    intro l c u s3
    apply propext
    constructor
    · intro h
      split at h
      · rw [WpS_ite] at h
        split at h
        · rename_i hc
          obtain ⟨e, h1, h2⟩ := hc
          subst e
          exact ⟨_, _, by assumption, h1, h2, h⟩
        · exact h.elim
      · exact h.elim
    · rintro ⟨al', fs', h1, h2, h3, h4⟩
      simp only [h1]
      rw [if_pos (by simp [h3]; simpa using h2)]
      exact h4
  constructor
  · intro h
    split at h
    · split at h
      · split at h
        · rw [WpS_to] at h
          refine ⟨_, _, _, _, _, rfl, by assumption, by assumption, h.imp (fun z s hz => ?_) fun _ _ z => z⟩
          rw [WpS_to] at hz
          exact hz.imp (fun u s hu => cast (inner _ _ _ _) hu) fun _ _ z => z
        · exact h.elim
      · exact h.elim
    · exact h.elim
  · rintro ⟨l, c, al, fs, x, rfl, h1, h2, h3⟩
    simp only [h1, h2]
    rw [WpS_to]
    refine h3.imp (fun z s hz => ?_) fun _ _ z => z
    rw [WpS_to]
    exact hz.imp (fun u s hu => cast (inner _ _ _ _).symm hu) fun _ _ z => z
theorem W_raise (c pn : Str) (a : Ex) (env : Env) (st : Sto) : WpS (sRaise c pn a env st) D = Wp (a env st) (fun v s => D.er (c, [(pn, v)]) env s) (fun x s => D.er x env s) := by
  unfold sRaise
  rw [WpS_to]; rfl
theorem W_for (mi : Ix) (g : Gx) (b : Sx) (env : Env) (st : Sto) : WpS (sFor mi g b env st) D = Wp (mi env st) (fun xg s => WpS (forL xg.2 g b xg.1 env s) D) (fun x s => D.er x env s) := by rw [sFor_eq, WpS_to]
theorem W_try (exm : Str → Str → Option Bool) (b : Sx) (cs : List Cl) (env : Env) (st : Sto) : WpS (sTry exm b cs env st) D = WpS (b env st) { D with er := fun x e s => WpS (clauses exm x e s cs) D } := by
  unfold sTry
  cases b env st <;> rfl
/-- a list's comprehension -/
theorem W_lc (mi : Ix) (g : Gx) (t : Tx) (m : Ex) (vs : List Nat) (env : Env) (st : Sto) {Q : Val → Sto → Prop} : Wp (eLc mi g t m vs env st) Q E = Wp (mi env st) (fun xg s => Wp (lcL xg.2 g t m (wipeE env vs) s.length xg.1 (s ++ [.lst []])) (fun _ s2 => Q (.loc s.length) s2) E) E := by
  rw [eLc_eq, Wp_bind]; congr 1; funext xg s; rw [Wp_bind]; rfl
theorem W_iSeq (a : Ex) (env : Env) (st : Sto) {Q : List Val × List (Nat × Ob) → Sto → Prop} : Wp (iSeq a env st) Q E = Wp (a env st) (fun x s => Wp (iSeq (eC x) env s) Q E) E := by
  unfold iSeq
  rw [Wp_bind]; rfl
/-! ### loops -/
theorem forL_wp {gd : List (Nat × Ob)} {g : Gx} {b : Sx} {D : Dx} (I : List Val → Env → Sto → Prop) (hg : ∀ xs env st, I xs env st → ∀ p ∈ gd, st[p.1]? = some p.2) (h0 : ∀ env st, I [] env st → D.nx env st)
    (hs : ∀ x r env st, I (x :: r) env st → ∃ env1, g x env = some env1 ∧ WpS (b env1 st) ⟨I r, D.rt, D.nx, I r, D.er⟩) : ∀ (xs : List Val) (env : Env) (st : Sto), I xs env st → WpS (forL gd g b xs env st) D
  | [], env, st, h => by
    unfold forL
    rw [if_pos (hg _ _ _ h)]
    exact h0 env st h
  | x :: r, env, st, h => by
    unfold forL
    rw [if_pos (hg _ _ _ h)]
    obtain ⟨env1, e1, q⟩ := hs x r env st h
    rw [e1]
    cases w : b env1 st with
    | nx e s => rw [w] at q; simp only [onG, w]; exact forL_wp I hg h0 hs r e s q
    | ct e s => rw [w] at q; simp only [onG, w]; exact forL_wp I hg h0 hs r e s q
    | bk e s => rw [w] at q; simp only [onG, w]; exact q
    | rt v s => rw [w] at q; simp only [onG, w]; exact q
    | er x e s => rw [w] at q; simp only [onG, w]; exact q
    | stuck => rw [w] at q; exact q.elim
theorem lcL_wp {gd : List (Nat × Ob)} {g : Gx} {t : Tx} {m : Ex} {env : Env} {L : Nat} {Q : Unit → Sto → Prop} (J : List Val → List Val → Sto → Prop) (hg : ∀ xs acc st, J xs acc st → (∀ p ∈ gd, st[p.1]? = some p.2)) (h0 : ∀ acc st, J [] acc st → Q () st)
    (hs : ∀ x r acc st, J (x :: r) acc st → acc.length < 16777216 ∧ ∃ env1, g x env = some env1 ∧ Wp (t env1 st) (fun b st1 => if b = true then Wp (m env1 st1) (fun y st2 => st2[L]? = some (.lst acc) ∧ J r (acc ++ [y]) (st2.set L (.lst (acc ++ [y])))) noX else J r acc st1) noX) :
    ∀ (xs acc : List Val) (st : Sto), J xs acc st → Wp (lcL gd g t m env L xs st) Q E
  | [], acc, st, h => by
    unfold lcL
    rw [if_pos (hg _ _ _ h)]
    exact h0 acc st h
  | x :: r, acc, st, h => by
    unfold lcL
    rw [if_pos (hg _ _ _ h)]
    obtain ⟨hl, env1, e1, q⟩ := hs x r acc st h
    rw [e1]
    show Wp ((noErR (t env1 st)).bind _) Q E
    rw [Wp_bind, Wp_noErR]
    refine q.imp (fun b st1 qb => ?_) fun _ _ z => z.elim
    cases b with
    | true =>
      rw [if_pos rfl] at qb ⊢
      rw [Wp_bind, Wp_noErR]
      refine qb.imp (fun y st2 ⟨q1, q2⟩ => ?_) fun _ _ z => z.elim
      simp only [q1]
      rw [if_pos hl]
      exact lcL_wp J hg h0 hs r _ _ q2
    | false =>
      rw [if_neg (by simp)] at qb ⊢
      exact lcL_wp J hg h0 hs r acc _ qb
/-- what is still to be run -/
def Later (b : Sx) (e : Env) (s : Sto) (D : Dx) : Prop := WpS (b e s) D
theorem Later_eq (b : Sx) (e : Env) (s : Sto) : Later b e s D = WpS (b e s) D := propext Iff.rfl
theorem WpS_seqL (a b : Sx) (env : Env) (st : Sto) : WpS (sSeq a b env st) D = WpS (a env st) ⟨fun e s => Later b e s D, D.rt, D.bk, D.ct, D.er⟩ := WpS_seq a b env st
end
theorem W_v0 {x : Val} {env : Env} {st : Sto} {Q : Val → Sto → Prop} {E : Xn → Sto → Prop} : Wp (eVar 0 (some x :: env) st) Q E = Wp (getV (some (some x)) st) Q E := W_var _ _ _
theorem W_v1 {e0 : Option Val} {x : Val} {env : Env} {st : Sto} {Q : Val → Sto → Prop} {E : Xn → Sto → Prop} : Wp (eVar 1 (e0 :: some x :: env) st) Q E = Wp (getV (some (some x)) st) Q E := W_var _ _ _
theorem W_v2 {e0 e1 : Option Val} {x : Val} {env : Env} {st : Sto} {Q : Val → Sto → Prop} {E : Xn → Sto → Prop} : Wp (eVar 2 (e0 :: e1 :: some x :: env) st) Q E = Wp (getV (some (some x)) st) Q E := W_var _ _ _
theorem W_v3 {e0 e1 e2 : Option Val} {x : Val} {env : Env} {st : Sto} {Q : Val → Sto → Prop} {E : Xn → Sto → Prop} : Wp (eVar 3 (e0 :: e1 :: e2 :: some x :: env) st) Q E = Wp (getV (some (some x)) st) Q E := W_var _ _ _
theorem W_v4 {e0 e1 e2 e3 : Option Val} {x : Val} {env : Env} {st : Sto} {Q : Val → Sto → Prop} {E : Xn → Sto → Prop} : Wp (eVar 4 (e0 :: e1 :: e2 :: e3 :: some x :: env) st) Q E = Wp (getV (some (some x)) st) Q E := W_var _ _ _
theorem W_v5 {e0 e1 e2 e3 e4 : Option Val} {x : Val} {env : Env} {st : Sto} {Q : Val → Sto → Prop} {E : Xn → Sto → Prop} : Wp (eVar 5 (e0 :: e1 :: e2 :: e3 :: e4 :: some x :: env) st) Q E = Wp (getV (some (some x)) st) Q E := W_var _ _ _
theorem W_v6 {e0 e1 e2 e3 e4 e5 : Option Val} {x : Val} {env : Env} {st : Sto} {Q : Val → Sto → Prop} {E : Xn → Sto → Prop} : Wp (eVar 6 (e0 :: e1 :: e2 :: e3 :: e4 :: e5 :: some x :: env) st) Q E = Wp (getV (some (some x)) st) Q E := W_var _ _ _
theorem W_v7 {e0 e1 e2 e3 e4 e5 e6 : Option Val} {x : Val} {env : Env} {st : Sto} {Q : Val → Sto → Prop} {E : Xn → Sto → Prop} : Wp (eVar 7 (e0 :: e1 :: e2 :: e3 :: e4 :: e5 :: e6 :: some x :: env) st) Q E = Wp (getV (some (some x)) st) Q E := W_var _ _ _
theorem W_v8 {e0 e1 e2 e3 e4 e5 e6 e7 : Option Val} {x : Val} {env : Env} {st : Sto} {Q : Val → Sto → Prop} {E : Xn → Sto → Prop} : Wp (eVar 8 (e0 :: e1 :: e2 :: e3 :: e4 :: e5 :: e6 :: e7 :: some x :: env) st) Q E = Wp (getV (some (some x)) st) Q E := W_var _ _ _
theorem W_v9 {e0 e1 e2 e3 e4 e5 e6 e7 e8 : Option Val} {x : Val} {env : Env} {st : Sto} {Q : Val → Sto → Prop} {E : Xn → Sto → Prop} : Wp (eVar 9 (e0 :: e1 :: e2 :: e3 :: e4 :: e5 :: e6 :: e7 :: e8 :: some x :: env) st) Q E = Wp (getV (some (some x)) st) Q E := W_var _ _ _
theorem W_v10 {e0 e1 e2 e3 e4 e5 e6 e7 e8 e9 : Option Val} {x : Val} {env : Env} {st : Sto} {Q : Val → Sto → Prop} {E : Xn → Sto → Prop} : Wp (eVar 10 (e0 :: e1 :: e2 :: e3 :: e4 :: e5 :: e6 :: e7 :: e8 :: e9 :: some x :: env) st) Q E = Wp (getV (some (some x)) st) Q E := W_var _ _ _
theorem W_v11 {e0 e1 e2 e3 e4 e5 e6 e7 e8 e9 e10 : Option Val} {x : Val} {env : Env} {st : Sto} {Q : Val → Sto → Prop} {E : Xn → Sto → Prop} : Wp (eVar 11 (e0 :: e1 :: e2 :: e3 :: e4 :: e5 :: e6 :: e7 :: e8 :: e9 :: e10 :: some x :: env) st) Q E = Wp (getV (some (some x)) st) Q E := W_var _ _ _
theorem W_v12 {e0 e1 e2 e3 e4 e5 e6 e7 e8 e9 e10 e11 : Option Val} {x : Val} {env : Env} {st : Sto} {Q : Val → Sto → Prop} {E : Xn → Sto → Prop} : Wp (eVar 12 (e0 :: e1 :: e2 :: e3 :: e4 :: e5 :: e6 :: e7 :: e8 :: e9 :: e10 :: e11 :: some x :: env) st) Q E = Wp (getV (some (some x)) st) Q E := W_var _ _ _
theorem W_v13 {e0 e1 e2 e3 e4 e5 e6 e7 e8 e9 e10 e11 e12 : Option Val} {x : Val} {env : Env} {st : Sto} {Q : Val → Sto → Prop} {E : Xn → Sto → Prop} : Wp (eVar 13 (e0 :: e1 :: e2 :: e3 :: e4 :: e5 :: e6 :: e7 :: e8 :: e9 :: e10 :: e11 :: e12 :: some x :: env) st) Q E = Wp (getV (some (some x)) st) Q E := W_var _ _ _
theorem W_v14 {e0 e1 e2 e3 e4 e5 e6 e7 e8 e9 e10 e11 e12 e13 : Option Val} {x : Val} {env : Env} {st : Sto} {Q : Val → Sto → Prop} {E : Xn → Sto → Prop} : Wp (eVar 14 (e0 :: e1 :: e2 :: e3 :: e4 :: e5 :: e6 :: e7 :: e8 :: e9 :: e10 :: e11 :: e12 :: e13 :: some x :: env) st) Q E = Wp (getV (some (some x)) st) Q E := W_var _ _ _
theorem W_v15 {e0 e1 e2 e3 e4 e5 e6 e7 e8 e9 e10 e11 e12 e13 e14 : Option Val} {x : Val} {env : Env} {st : Sto} {Q : Val → Sto → Prop} {E : Xn → Sto → Prop} : Wp (eVar 15 (e0 :: e1 :: e2 :: e3 :: e4 :: e5 :: e6 :: e7 :: e8 :: e9 :: e10 :: e11 :: e12 :: e13 :: e14 :: some x :: env) st) Q E = Wp (getV (some (some x)) st) Q E := W_var _ _ _
theorem W_v16 {e0 e1 e2 e3 e4 e5 e6 e7 e8 e9 e10 e11 e12 e13 e14 e15 : Option Val} {x : Val} {env : Env} {st : Sto} {Q : Val → Sto → Prop} {E : Xn → Sto → Prop} : Wp (eVar 16 (e0 :: e1 :: e2 :: e3 :: e4 :: e5 :: e6 :: e7 :: e8 :: e9 :: e10 :: e11 :: e12 :: e13 :: e14 :: e15 :: some x :: env) st) Q E = Wp (getV (some (some x)) st) Q E := W_var _ _ _
theorem W_v17 {e0 e1 e2 e3 e4 e5 e6 e7 e8 e9 e10 e11 e12 e13 e14 e15 e16 : Option Val} {x : Val} {env : Env} {st : Sto} {Q : Val → Sto → Prop} {E : Xn → Sto → Prop} : Wp (eVar 17 (e0 :: e1 :: e2 :: e3 :: e4 :: e5 :: e6 :: e7 :: e8 :: e9 :: e10 :: e11 :: e12 :: e13 :: e14 :: e15 :: e16 :: some x :: env) st) Q E = Wp (getV (some (some x)) st) Q E := W_var _ _ _
theorem W_v18 {e0 e1 e2 e3 e4 e5 e6 e7 e8 e9 e10 e11 e12 e13 e14 e15 e16 e17 : Option Val} {x : Val} {env : Env} {st : Sto} {Q : Val → Sto → Prop} {E : Xn → Sto → Prop} : Wp (eVar 18 (e0 :: e1 :: e2 :: e3 :: e4 :: e5 :: e6 :: e7 :: e8 :: e9 :: e10 :: e11 :: e12 :: e13 :: e14 :: e15 :: e16 :: e17 :: some x :: env) st) Q E = Wp (getV (some (some x)) st) Q E := W_var _ _ _
theorem W_v19 {e0 e1 e2 e3 e4 e5 e6 e7 e8 e9 e10 e11 e12 e13 e14 e15 e16 e17 e18 : Option Val} {x : Val} {env : Env} {st : Sto} {Q : Val → Sto → Prop} {E : Xn → Sto → Prop} : Wp (eVar 19 (e0 :: e1 :: e2 :: e3 :: e4 :: e5 :: e6 :: e7 :: e8 :: e9 :: e10 :: e11 :: e12 :: e13 :: e14 :: e15 :: e16 :: e17 :: e18 :: some x :: env) st) Q E = Wp (getV (some (some x)) st) Q E := W_var _ _ _
theorem W_v20 {e0 e1 e2 e3 e4 e5 e6 e7 e8 e9 e10 e11 e12 e13 e14 e15 e16 e17 e18 e19 : Option Val} {x : Val} {env : Env} {st : Sto} {Q : Val → Sto → Prop} {E : Xn → Sto → Prop} : Wp (eVar 20 (e0 :: e1 :: e2 :: e3 :: e4 :: e5 :: e6 :: e7 :: e8 :: e9 :: e10 :: e11 :: e12 :: e13 :: e14 :: e15 :: e16 :: e17 :: e18 :: e19 :: some x :: env) st) Q E = Wp (getV (some (some x)) st) Q E := W_var _ _ _
theorem W_v21 {e0 e1 e2 e3 e4 e5 e6 e7 e8 e9 e10 e11 e12 e13 e14 e15 e16 e17 e18 e19 e20 : Option Val} {x : Val} {env : Env} {st : Sto} {Q : Val → Sto → Prop} {E : Xn → Sto → Prop} : Wp (eVar 21 (e0 :: e1 :: e2 :: e3 :: e4 :: e5 :: e6 :: e7 :: e8 :: e9 :: e10 :: e11 :: e12 :: e13 :: e14 :: e15 :: e16 :: e17 :: e18 :: e19 :: e20 :: some x :: env) st) Q E = Wp (getV (some (some x)) st) Q E := W_var _ _ _
theorem W_v22 {e0 e1 e2 e3 e4 e5 e6 e7 e8 e9 e10 e11 e12 e13 e14 e15 e16 e17 e18 e19 e20 e21 : Option Val} {x : Val} {env : Env} {st : Sto} {Q : Val → Sto → Prop} {E : Xn → Sto → Prop} : Wp (eVar 22 (e0 :: e1 :: e2 :: e3 :: e4 :: e5 :: e6 :: e7 :: e8 :: e9 :: e10 :: e11 :: e12 :: e13 :: e14 :: e15 :: e16 :: e17 :: e18 :: e19 :: e20 :: e21 :: some x :: env) st) Q E = Wp (getV (some (some x)) st) Q E := W_var _ _ _
theorem W_v23 {e0 e1 e2 e3 e4 e5 e6 e7 e8 e9 e10 e11 e12 e13 e14 e15 e16 e17 e18 e19 e20 e21 e22 : Option Val} {x : Val} {env : Env} {st : Sto} {Q : Val → Sto → Prop} {E : Xn → Sto → Prop} : Wp (eVar 23 (e0 :: e1 :: e2 :: e3 :: e4 :: e5 :: e6 :: e7 :: e8 :: e9 :: e10 :: e11 :: e12 :: e13 :: e14 :: e15 :: e16 :: e17 :: e18 :: e19 :: e20 :: e21 :: e22 :: some x :: env) st) Q E = Wp (getV (some (some x)) st) Q E := W_var _ _ _
theorem W_v24 {e0 e1 e2 e3 e4 e5 e6 e7 e8 e9 e10 e11 e12 e13 e14 e15 e16 e17 e18 e19 e20 e21 e22 e23 : Option Val} {x : Val} {env : Env} {st : Sto} {Q : Val → Sto → Prop} {E : Xn → Sto → Prop} : Wp (eVar 24 (e0 :: e1 :: e2 :: e3 :: e4 :: e5 :: e6 :: e7 :: e8 :: e9 :: e10 :: e11 :: e12 :: e13 :: e14 :: e15 :: e16 :: e17 :: e18 :: e19 :: e20 :: e21 :: e22 :: e23 :: some x :: env) st) Q E = Wp (getV (some (some x)) st) Q E := W_var _ _ _
theorem W_v25 {e0 e1 e2 e3 e4 e5 e6 e7 e8 e9 e10 e11 e12 e13 e14 e15 e16 e17 e18 e19 e20 e21 e22 e23 e24 : Option Val} {x : Val} {env : Env} {st : Sto} {Q : Val → Sto → Prop} {E : Xn → Sto → Prop} : Wp (eVar 25 (e0 :: e1 :: e2 :: e3 :: e4 :: e5 :: e6 :: e7 :: e8 :: e9 :: e10 :: e11 :: e12 :: e13 :: e14 :: e15 :: e16 :: e17 :: e18 :: e19 :: e20 :: e21 :: e22 :: e23 :: e24 :: some x :: env) st) Q E = Wp (getV (some (some x)) st) Q E := W_var _ _ _
theorem W_v26 {e0 e1 e2 e3 e4 e5 e6 e7 e8 e9 e10 e11 e12 e13 e14 e15 e16 e17 e18 e19 e20 e21 e22 e23 e24 e25 : Option Val} {x : Val} {env : Env} {st : Sto} {Q : Val → Sto → Prop} {E : Xn → Sto → Prop} : Wp (eVar 26 (e0 :: e1 :: e2 :: e3 :: e4 :: e5 :: e6 :: e7 :: e8 :: e9 :: e10 :: e11 :: e12 :: e13 :: e14 :: e15 :: e16 :: e17 :: e18 :: e19 :: e20 :: e21 :: e22 :: e23 :: e24 :: e25 :: some x :: env) st) Q E = Wp (getV (some (some x)) st) Q E := W_var _ _ _
theorem W_v27 {e0 e1 e2 e3 e4 e5 e6 e7 e8 e9 e10 e11 e12 e13 e14 e15 e16 e17 e18 e19 e20 e21 e22 e23 e24 e25 e26 : Option Val} {x : Val} {env : Env} {st : Sto} {Q : Val → Sto → Prop} {E : Xn → Sto → Prop} : Wp (eVar 27 (e0 :: e1 :: e2 :: e3 :: e4 :: e5 :: e6 :: e7 :: e8 :: e9 :: e10 :: e11 :: e12 :: e13 :: e14 :: e15 :: e16 :: e17 :: e18 :: e19 :: e20 :: e21 :: e22 :: e23 :: e24 :: e25 :: e26 :: some x :: env) st) Q E = Wp (getV (some (some x)) st) Q E := W_var _ _ _
theorem W_v28 {e0 e1 e2 e3 e4 e5 e6 e7 e8 e9 e10 e11 e12 e13 e14 e15 e16 e17 e18 e19 e20 e21 e22 e23 e24 e25 e26 e27 : Option Val} {x : Val} {env : Env} {st : Sto} {Q : Val → Sto → Prop} {E : Xn → Sto → Prop} : Wp (eVar 28 (e0 :: e1 :: e2 :: e3 :: e4 :: e5 :: e6 :: e7 :: e8 :: e9 :: e10 :: e11 :: e12 :: e13 :: e14 :: e15 :: e16 :: e17 :: e18 :: e19 :: e20 :: e21 :: e22 :: e23 :: e24 :: e25 :: e26 :: e27 :: some x :: env) st) Q E = Wp (getV (some (some x)) st) Q E := W_var _ _ _
theorem W_v29 {e0 e1 e2 e3 e4 e5 e6 e7 e8 e9 e10 e11 e12 e13 e14 e15 e16 e17 e18 e19 e20 e21 e22 e23 e24 e25 e26 e27 e28 : Option Val} {x : Val} {env : Env} {st : Sto} {Q : Val → Sto → Prop} {E : Xn → Sto → Prop} : Wp (eVar 29 (e0 :: e1 :: e2 :: e3 :: e4 :: e5 :: e6 :: e7 :: e8 :: e9 :: e10 :: e11 :: e12 :: e13 :: e14 :: e15 :: e16 :: e17 :: e18 :: e19 :: e20 :: e21 :: e22 :: e23 :: e24 :: e25 :: e26 :: e27 :: e28 :: some x :: env) st) Q E = Wp (getV (some (some x)) st) Q E := W_var _ _ _
theorem W_v30 {e0 e1 e2 e3 e4 e5 e6 e7 e8 e9 e10 e11 e12 e13 e14 e15 e16 e17 e18 e19 e20 e21 e22 e23 e24 e25 e26 e27 e28 e29 : Option Val} {x : Val} {env : Env} {st : Sto} {Q : Val → Sto → Prop} {E : Xn → Sto → Prop} : Wp (eVar 30 (e0 :: e1 :: e2 :: e3 :: e4 :: e5 :: e6 :: e7 :: e8 :: e9 :: e10 :: e11 :: e12 :: e13 :: e14 :: e15 :: e16 :: e17 :: e18 :: e19 :: e20 :: e21 :: e22 :: e23 :: e24 :: e25 :: e26 :: e27 :: e28 :: e29 :: some x :: env) st) Q E = Wp (getV (some (some x)) st) Q E := W_var _ _ _
theorem Wg_non {st : Sto} {Q : Val → Sto → Prop} {E : Xn → Sto → Prop} : Wp (getV (some (some .non)) st) Q E = Q .non st := propext Iff.rfl
theorem Wg_bl {z : Bool} {st : Sto} {Q : Val → Sto → Prop} {E : Xn → Sto → Prop} : Wp (getV (some (some (.bl z))) st) Q E = Q (.bl z) st := propext Iff.rfl
theorem Wg_int {z : Int} {st : Sto} {Q : Val → Sto → Prop} {E : Xn → Sto → Prop} : Wp (getV (some (some (.int z))) st) Q E = Q (.int z) st := propext Iff.rfl
theorem Wg_str {z : Str} {st : Sto} {Q : Val → Sto → Prop} {E : Xn → Sto → Prop} : Wp (getV (some (some (.str z))) st) Q E = Q (.str z) st := propext Iff.rfl
theorem Wg_tup {z : List Val} {st : Sto} {Q : Val → Sto → Prop} {E : Xn → Sto → Prop} : Wp (getV (some (some (.tup z))) st) Q E = Q (.tup z) st := propext Iff.rfl
theorem Wg_kt {z : List Val} {st : Sto} {Q : Val → Sto → Prop} {E : Xn → Sto → Prop} : Wp (getV (some (some (.kt z))) st) Q E = Q (.kt z) st := propext Iff.rfl
theorem Wg_loc {z : Nat} {st : Sto} {Q : Val → Sto → Prop} {E : Xn → Sto → Prop} : Wp (getV (some (some (.loc z))) st) Q E = Q (.loc z) st := propext Iff.rfl
theorem Wg_fn {z : Str} {st : Sto} {Q : Val → Sto → Prop} {E : Xn → Sto → Prop} : Wp (getV (some (some (.fn z))) st) Q E = Q (.fn z) st := propext Iff.rfl
theorem Wg_scr {z : List Int} {st : Sto} {Q : Val → Sto → Prop} {E : Xn → Sto → Prop} : Wp (getV (some (some (.scr z))) st) Q E = Q (.scr z) st := propext Iff.rfl
theorem Wg_ok {x : Val} (h : okV x = true) (st : Sto) (Q : Val → Sto → Prop) (E : Xn → Sto → Prop) : Wp (getV (some (some x)) st) Q E = Q x st := by rw [getV_ok h]; rfl
theorem W_seqstr (a b : Str) (st : Sto) (Q : Val → Sto → Prop) (E : Xn → Sto → Prop) : Wp (oEq false (.str a) (.str b) st) Q E = Q (.bl (decide (a = b))) st := propext Iff.rfl
theorem W_eqint (i j : Int) (st : Sto) (Q : Val → Sto → Prop) (E : Xn → Sto → Prop) : Wp (oEq false (.int i) (.int j) st) Q E = Q (.bl (decide (i = j))) st := by rw [oEq_int]; rfl
theorem W_neint (i j : Int) (st : Sto) (Q : Val → Sto → Prop) (E : Xn → Sto → Prop) : Wp (oEq true (.int i) (.int j) st) Q E = Q (.bl (!decide (i = j))) st := by rw [oEq_int]; rfl
theorem W_addint (i j : Int) (st : Sto) (Q : Val → Sto → Prop) (E : Xn → Sto → Prop) : Wp (oAdd (.int i) (.int j) st) Q E = Q (.int (i + j)) st := propext Iff.rfl
theorem W_oSub (i j : Int) (st : Sto) (Q : Val → Sto → Prop) (E : Xn → Sto → Prop) : Wp (oSub (.int i) (.int j) st) Q E = Q (.int (i - j)) st := propext Iff.rfl
theorem W_oLt (i j : Int) (st : Sto) (Q : Val → Sto → Prop) (E : Xn → Sto → Prop) : Wp (oLt (.int i) (.int j) st) Q E = Q (.bl (decide (i < j))) st := propext Iff.rfl
theorem W_oLe (i j : Int) (st : Sto) (Q : Val → Sto → Prop) (E : Xn → Sto → Prop) : Wp (oLe (.int i) (.int j) st) Q E = Q (.bl (decide (i ≤ j))) st := propext Iff.rfl
theorem W_oGt (i j : Int) (st : Sto) (Q : Val → Sto → Prop) (E : Xn → Sto → Prop) : Wp (oGt (.int i) (.int j) st) Q E = Q (.bl (decide (j < i))) st := propext Iff.rfl
theorem W_oGe (i j : Int) (st : Sto) (Q : Val → Sto → Prop) (E : Xn → Sto → Prop) : Wp (oGe (.int i) (.int j) st) Q E = Q (.bl (decide (j ≤ i))) st := propext Iff.rfl
theorem W_isnon (st : Sto) (Q : Val → Sto → Prop) (E : Xn → Sto → Prop) : Wp (oIsN false .non .non st) Q E = Q (.bl true) st := propext Iff.rfl
theorem W_ite_ex (v : Bool) (P : Bool → Prop) : (∃ q, Val.bl v = Val.bl q ∧ P q) = P v := by simp
theorem W_int_ex (v : Int) (P : Int → Prop) : (∃ q, Val.int v = Val.int q ∧ P q) = P v := by simp
end Sm

/-! The Sim layer, part V: values as data; what stays. -/
namespace Sm
open PySem L2
/-- the objects from b on stay -/
structure Gr (b : Nat) (st st' : Sto) : Prop where
  len : st.length ≤ st'.length
  keep : ∀ l, b ≤ l → l < st.length → st'[l]? = st[l]?
theorem Gr.refl {b : Nat} {st : Sto} : Gr b st st := ⟨Nat.le_refl _, fun _ _ _ => rfl⟩
theorem Gr.trans {b : Nat} {st st' st'' : Sto} (h : Gr b st st') (k : Gr b st' st'') : Gr b st st'' := ⟨Nat.le_trans h.len k.len, fun l h1 h2 => (k.keep l h1 (Nat.lt_of_lt_of_le h2 h.len)).trans (h.keep l h1 h2)⟩
theorem Gr.pre {b : Nat} {st st' : Sto} (h : st <+: st') : Gr b st st' := by
  obtain ⟨t, rfl⟩ := h
  exact ⟨by simp, fun l _ h2 => List.getElem?_append_left h2⟩
theorem Gr.app {b : Nat} {st : Sto} (t : Sto) : Gr b st (st ++ t) := .pre ⟨t, rfl⟩
theorem Gr.at {b l : Nat} {st st' : Sto} {o : Ob} (g : Gr b st st') (hb : b ≤ l) (h : st[l]? = some o) : st'[l]? = some o := (g.keep l hb (List.getElem?_eq_some_iff.mp h).1).trans h
theorem Gr.of_fr {b d c : Nat} {st st' : Sto} (f : Fr d c st st') (hd : d < b) (hc : c < b) : Gr b st st' := ⟨f.len, fun l h1 h2 => f.keep l h2 (by omega) (by omega)⟩
theorem Gr.setNew {b L : Nat} {st s : Sto} {o : Ob} (h : Gr b st s) (hL : st.length ≤ L) : Gr b st (s.set L o) := ⟨by rw [List.length_set]; exact h.len, fun l h1 h2 => by rw [List.getElem?_set_ne (by omega)]; exact h.keep l h1 h2⟩
theorem pre_app {st : Sto} (t : Sto) : st <+: st ++ t := ⟨t, rfl⟩
theorem pre_at {st st' : Sto} {l : Nat} {o : Ob} (h : st <+: st') (q : st[l]? = some o) : st'[l]? = some o := by
  obtain ⟨t, rfl⟩ := h
  rw [List.getElem?_append_left (List.getElem?_eq_some_iff.mp q).1]; exact q
/-- a deal below b -/
structure HS (b d c : Nat) (st : Sto) : Prop where
  deal : Deal st d c
  hd : d < b
  hc : c < b
  hb : b ≤ st.length
theorem HS.gr {b d c : Nat} {st st' : Sto} (h : HS b d c st) (g : Gr b st st') (k : Deal st' d c) : HS b d c st' := ⟨k, h.hd, h.hc, Nat.le_trans h.hb g.len⟩
theorem HS.pre {b d c : Nat} {st st' : Sto} (h : HS b d c st) (p : st <+: st') : HS b d c st' := by
  obtain ⟨t, rfl⟩ := p
  exact ⟨h.deal.app t, h.hd, h.hc, by have := h.hb; simp; omega⟩
theorem HS.app {b d c : Nat} {st : Sto} (h : HS b d c st) (t : Sto) : HS b d c (st ++ t) := h.pre ⟨t, rfl⟩
theorem HS.setNew {b d c L : Nat} {st : Sto} {o : Ob} (h : HS b d c st) (hL : b ≤ L) : HS b d c (st.set L o) := ⟨h.deal.setOther (by have := h.hd; omega) (by have := h.hc; omega), h.hd, h.hc, by rw [List.length_set]; exact h.hb⟩
/-- a draw -/
theorem draw_wp {m : Fx} (hm : AnyOk m) {b d c : Nat} {st : Sto} {bound : Int} (h : HS b d c st) (h1 : 0 < bound) (h2 : bound < 2 ^ 200) {Q : Val → Sto → Prop} {E : Xn → Sto → Prop}
    (k : ∀ r s, 0 ≤ r → r < bound → HS b d c s → Gr b st s → Q (.int r) s) : Wp (m [.loc d, .int bound] st) Q E := by
  have hl : bound.natAbs.log2 < 9000 := (Nat.log2_lt (by omega)).mpr (Nat.lt_of_lt_of_le (by omega : bound.natAbs < 2 ^ 200) (Nat.pow_le_pow_right (by decide) (by decide)))
  have q := hm bound st d c h.deal h1 hl
  rw [Ok_wp] at q
  refine q.mono fun v s ⟨r, e, r1, r2, r3, r4⟩ => ?_
  subst e
  have g := Gr.of_fr r4 h.hd h.hc
  exact k r s r1 r2 (h.gr g r3) g
/-- one of a list -/
theorem pick_wp {m : Fx} (hm : AnyOk m) {b d c l : Nat} {st : Sto} {xs : List Val} (h : HS b d c st) (hl : st[l]? = some (.lst xs)) (hb : b ≤ l) (hx : xs ≠ []) (hz : xs.length < 16777216) {Q : Val → Sto → Prop} {E : Xn → Sto → Prop}
    (k : ∀ v s, v ∈ xs → HS b d c s → Gr b st s → Q v s) : Wp (runB 2 (ofB m) [.loc d, .loc l] st) Q E := by
  have q := of_ok hm h.deal hl (by have := h.hd; omega) (by have := h.hc; omega) hx hz
  rw [Ok_wp] at q
  refine q.mono fun v s ⟨r, r3, r4⟩ => ?_
  have g := Gr.of_fr r4 h.hd h.hc
  exact k v s r (h.gr g r3) g
/-! ### data -/
mutual
def RD (b : Nat) (st : Sto) : PyData → Val → Prop
  | .none, x => x = .non
  | .bool q, x => x = .bl q
  | .int i, x => x = .int i
  | .str s, x => x = .str s
  | .tuple ds, x => ∃ xs, x = .tup xs ∧ RDs b st ds xs
  | .list ds, x => ∃ l xs, x = .loc l ∧ b ≤ l ∧ st[l]? = some (.lst xs) ∧ RDs b st ds xs
  | .dict _, _ => False
def RDs (b : Nat) (st : Sto) : List PyData → List Val → Prop
  | [], xs => xs = []
  | d :: ds, xs => ∃ x r, xs = x :: r ∧ RD b st d x ∧ RDs b st ds r
end
section
variable {b : Nat} {st st' : Sto}
mutual
theorem RD.gr (g : Gr b st st') : ∀ (d : PyData) {x : Val}, RD b st d x → RD b st' d x
  | .none, _, h => by rw [RD] at h ⊢; exact h
  | .bool _, _, h => by rw [RD] at h ⊢; exact h
  | .int _, _, h => by rw [RD] at h ⊢; exact h
  | .str _, _, h => by rw [RD] at h ⊢; exact h
  | .tuple ds, _, h => by
    rw [RD] at h ⊢
    obtain ⟨xs, e, h⟩ := h
    exact ⟨xs, e, RDs.gr g ds h⟩
  | .list ds, _, h => by
    rw [RD] at h ⊢
    obtain ⟨l, xs, e, hb, h1, h⟩ := h
    exact ⟨l, xs, e, hb, g.at hb h1, RDs.gr g ds h⟩
  | .dict _, _, h => by simp [RD] at h
theorem RDs.gr (g : Gr b st st') : ∀ (ds : List PyData) {xs : List Val}, RDs b st ds xs → RDs b st' ds xs
  | [], _, h => by rw [RDs] at h ⊢; exact h
  | d :: ds, _, h => by
    rw [RDs] at h ⊢
    obtain ⟨x, r, e, h1, h2⟩ := h
    exact ⟨x, r, e, RD.gr g d h1, RDs.gr g ds h2⟩
end
theorem RD.pre {d : PyData} {x : Val} (h : RD b st d x) (p : st <+: st') : RD b st' d x := RD.gr (.pre p) d h
theorem RDs.nil : RDs b st [] [] := by rw [RDs]
theorem RDs.cons {d : PyData} {ds : List PyData} {x : Val} {xs : List Val} (h : RD b st d x) (t : RDs b st ds xs) : RDs b st (d :: ds) (x :: xs) := by rw [RDs]; exact ⟨x, xs, rfl, h, t⟩
theorem RDs.length : ∀ {ds : List PyData} {xs : List Val}, RDs b st ds xs → xs.length = ds.length
  | [], _, h => by rw [RDs] at h; subst h; rfl
  | d :: ds, _, h => by
    rw [RDs] at h
    obtain ⟨x, r, rfl, h1, h2⟩ := h
    simp [RDs.length h2]
theorem RDs.append : ∀ {ds es : List PyData} {xs ys : List Val}, RDs b st ds xs → RDs b st es ys → RDs b st (ds ++ es) (xs ++ ys)
  | [], _, _, _, h, t => by rw [RDs] at h; subst h; exact t
  | d :: ds, _, _, _, h, t => by
    rw [RDs] at h
    obtain ⟨x, r, rfl, h1, h2⟩ := h
    exact .cons h1 (RDs.append h2 t)
theorem RDs.get : ∀ {ds : List PyData} {xs : List Val} {i : Nat} {d : PyData}, RDs b st ds xs → ds[i]? = some d → ∃ x, xs[i]? = some x ∧ RD b st d x
  | [], _, _, _, _, e => by simp at e
  | y :: ds, xs, i, d, h, e => by
    rw [RDs] at h
    obtain ⟨x, r, rfl, h1, h2⟩ := h
    cases i with
    | zero => simp at e; subst e; exact ⟨x, by simp, h1⟩
    | succ i => simpa using RDs.get (i := i) h2 (by simpa using e)
theorem RDs.take : ∀ {ds : List PyData} {xs : List Val} (n : Nat), RDs b st ds xs → RDs b st (ds.take n) (xs.take n)
  | [], _, n, h => by rw [RDs] at h; subst h; simp [RDs]
  | d :: ds, _, 0, h => by simp [RDs]
  | d :: ds, _, n + 1, h => by
    rw [RDs] at h
    obtain ⟨x, r, rfl, h1, h2⟩ := h
    exact .cons h1 (RDs.take n h2)
theorem RDs.drop : ∀ {ds : List PyData} {xs : List Val} (n : Nat), RDs b st ds xs → RDs b st (ds.drop n) (xs.drop n)
  | [], _, n, h => by rw [RDs] at h; subst h; simp [RDs]
  | d :: ds, _, 0, h => h
  | d :: ds, _, n + 1, h => by
    rw [RDs] at h
    obtain ⟨x, r, rfl, h1, h2⟩ := h
    exact RDs.drop n h2
theorem RDs.ints : ∀ {ns : List Int}, RDs b st (ns.map PyData.int) (ivs ns)
  | [] => .nil
  | n :: ns => .cons (by rw [RD]) RDs.ints
theorem RD.int {i : Int} : RD b st (.int i) (.int i) := by rw [RD]
theorem RD.str {s : Str} : RD b st (.str s) (.str s) := by rw [RD]
theorem RD.bl {s : Bool} : RD b st (.bool s) (.bl s) := by rw [RD]
theorem RD.non : RD b st .none .non := by rw [RD]
theorem RD.tup {ds : List PyData} {xs : List Val} (h : RDs b st ds xs) : RD b st (.tuple ds) (.tup xs) := by rw [RD]; exact ⟨xs, rfl, h⟩
theorem RD.lst {ds : List PyData} {xs : List Val} {l : Nat} (hb : b ≤ l) (h1 : st[l]? = some (.lst xs)) (h : RDs b st ds xs) : RD b st (.list ds) (.loc l) := by rw [RD]; exact ⟨l, xs, rfl, hb, h1, h⟩
theorem RD.tup_iff {ds : List PyData} {x : Val} : RD b st (.tuple ds) x ↔ ∃ xs, x = .tup xs ∧ RDs b st ds xs := by rw [RD]
theorem RD.okV {d : PyData} {x : Val} (h : RD b st d x) : okV x = true := by
  cases d <;> (rw [RD] at h)
  · subst h; rfl
  · subst h; rfl
  · subst h; rfl
  · subst h; rfl
  · obtain ⟨l, xs, rfl, _⟩ := h; rfl
  · obtain ⟨xs, rfl, _⟩ := h; rfl
  · exact h.elim
theorem RD.getV {d : PyData} {x : Val} (h : RD b st d x) (s : Sto) : getV (some (some x)) s = .ok x s := getV_ok h.okV
mutual
theorem RD.pd : ∀ (d : PyData) {x : Val}, RD b st d x → Pd d.depth st x d
  | .none, _, h => by rw [RD] at h; subst h; exact Pd.non.mono (Nat.zero_le _)
  | .bool _, _, h => by rw [RD] at h; subst h; exact (Pd.bl _).mono (Nat.zero_le _)
  | .int _, _, h => by rw [RD] at h; subst h; exact (Pd.int _).mono (Nat.zero_le _)
  | .str _, _, h => by rw [RD] at h; subst h; exact (Pd.str _).mono (Nat.zero_le _)
  | .tuple ds, _, h => by
    rw [RD] at h
    obtain ⟨xs, rfl, h⟩ := h
    have := Pd.tup (RDs.pd ds h)
    exact this.mono (by simp only [PyData.depth]; omega)
  | .list ds, _, h => by
    rw [RD] at h
    obtain ⟨l, xs, rfl, hb, h1, h⟩ := h
    have := Pd.lst h1 (RDs.pd ds h)
    exact this.mono (by simp only [PyData.depth]; omega)
  | .dict _, _, h => by simp [RD] at h
theorem RDs.pd : ∀ (ds : List PyData) {xs : List Val}, RDs b st ds xs → PdA (PyData.depthAll ds) st xs ds
  | [], _, h => by rw [RDs] at h; subst h; exact .nil
  | d :: ds, _, h => by
    rw [RDs] at h
    obtain ⟨x, r, rfl, h1, h2⟩ := h
    have q1 := RD.pd d h1
    have q2 := RDs.pd ds h2
    exact .cons (q1.mono (by simp only [PyData.depthAll]; omega)) (q2.mono (by simp only [PyData.depthAll]; omega))
end
/-- data that may be compared and shown -/
structure Sml (n m : Nat) (d : PyData) : Prop where
  sb : SB n m d
  lay : d.canLay0 = true
structure Smls (n m : Nat) (ds : List PyData) : Prop where
  sb : SBs n m ds
  lay : PyData.canLayAll0 ds = true
theorem Sml.mono {n m n' m' : Nat} {d : PyData} (h : Sml n m d) (h1 : n ≤ n') (h2 : m ≤ m') : Sml n' m' d := ⟨h.sb.mono h1 h2, h.lay⟩
theorem Smls.mono {n m n' m' : Nat} {d : List PyData} (h : Smls n m d) (h1 : n ≤ n') (h2 : m ≤ m') : Smls n' m' d := ⟨h.sb.mono h1 h2, h.lay⟩
theorem Sml.int {i : Int} (h0 : 0 ≤ i) (h : i < 10 ^ 50) : Sml 1 0 (.int i) := ⟨.int h0 h, by simp [PyData.canLay0]⟩
theorem Sml.neg1 : Sml 1 0 (.int (-1)) := ⟨.neg1, by simp [PyData.canLay0]⟩
theorem Sml.non : Sml 1 0 .none := ⟨.non, by simp [PyData.canLay0]⟩
theorem Sml.bl (b : Bool) : Sml 1 0 (.bool b) := ⟨.bl b, by simp [PyData.canLay0]⟩
theorem Sml.str {s : Str} (h : (PyData.leavesShort 60 (.str s)) = true) (h2 : s.cps.size ≤ 100) (h3 : PyData.canLay0 (.str s) = true) : Sml 1 100 (.str s) := ⟨.str h h2, h3⟩
theorem Smls.nil : Smls 1 0 [] := ⟨.nil, by simp [PyData.canLayAll0]⟩
theorem Smls.cons {n m n' m' : Nat} {d : PyData} {ds : List PyData} (h : Sml n m d) (t : Smls n' m' ds) : Smls (max n n') (m + 1 + m') (d :: ds) := ⟨.cons h.sb t.sb, by simp [PyData.canLayAll0, h.lay, t.lay]⟩
theorem Smls.cons' {n m m' : Nat} {d : PyData} {ds : List PyData} (h : Sml n m d) (t : Smls n m' ds) : Smls n (m + 1 + m') (d :: ds) := (Smls.cons h t).mono (by omega) (Nat.le_refl _)
theorem Sml.tup {n m : Nat} {ds : List PyData} (h : Smls n m ds) : Sml (n + 1) m (.tuple ds) := ⟨.tup h.sb, by simp only [PyData.canLay0]; exact h.lay⟩
theorem Sml.lst {n m : Nat} {ds : List PyData} (h : Smls n m ds) : Sml (n + 1) m (.list ds) := ⟨.lst h.sb, by simp only [PyData.canLay0]; exact h.lay⟩
theorem canLayAll_ints (xs : List Int) : PyData.canLayAll0 (xs.map PyData.int) = true := canLayAll_ivs xs
theorem Smls.ints {xs : List Int} (h : ∀ x ∈ xs, 0 ≤ x ∧ x < 10 ^ 50) : Smls 1 xs.length (xs.map PyData.int) := ⟨.ivs h, canLayAll_ivs xs⟩
theorem Sml.shaped {n m : Nat} {d : PyData} (h : Sml n m d) (hn : n ≤ 60) : SeqAt.shaped d = true := by
  have := h.sb.dp
  simp only [SeqAt.shaped, h.lay, Bool.true_and]
  exact decide_eq_true (by omega)
/-- x == y -/
theorem eq_rd {neg : Bool} {d e : PyData} {x y : Val} (h1 : RD b st d x) (h2 : RD b st e y) (s1 : SeqAt.shaped d = true) (s2 : SeqAt.shaped e = true) (k1 : d.depth ≤ 40) (k2 : e.depth ≤ 40) : oEq neg x y st = .ok (.bl (if neg then !PyData.eqv d e else PyData.eqv d e)) st := by
  have p1 := RD.pd d h1 deep k1
  have p2 := RD.pd e h2 deep k2
  unfold oEq
  cases q : strPair x y with
  | some p =>
    obtain ⟨rfl, rfl⟩ := strPair_some q
    have e1 : d = .str p.1 := by
      have : Sm.pd st deep (.str p.1) = some (.str p.1) := rfl
      rw [this] at p1; exact (Option.some.inj p1).symm
    have e2 : e = .str p.2 := by
      have : Sm.pd st deep (.str p.2) = some (.str p.2) := rfl
      rw [this] at p2; exact (Option.some.inj p2).symm
    subst e1 e2
    simp only [PyData.eqv]
    rfl
  | none =>
    simp only [oEqD, p1, p2, s1, s2, Bool.and_self, if_true]
theorem Sml.depth {n m : Nat} {d : PyData} (h : Sml n m d) : d.depth ≤ n := h.sb.dp
theorem eq_wp {neg : Bool} {d e : PyData} {x y : Val} {n m n' m' : Nat} {E : Xn → Sto → Prop} {Q : Val → Sto → Prop} (h1 : RD b st d x) (h2 : RD b st e y) (s1 : Sml n m d) (s2 : Sml n' m' e) (k1 : n ≤ 40) (k2 : n' ≤ 40) (k : Q (.bl (if neg then !PyData.eqv d e else PyData.eqv d e)) st) : Wp (oEq neg x y st) Q E :=
  Wp_of (eq_rd h1 h2 (s1.shaped (by omega)) (s2.shaped (by omega)) (by have := s1.depth; omega) (by have := s2.depth; omega)) k
/-- repr(x) -/
theorem repr_wp {d : PyData} {x : Val} {n m : Nat} {E : Xn → Sto → Prop} {Q : Val → Sto → Prop} (h1 : RD b st d x) (s1 : Sml n m d) (k1 : n ≤ 40) (k2 : m ≤ 200000) (k : Q (.str d.shown) st) : Wp (one' oRepr [x] st) Q E :=
  Wp_of (Sm.repr_ok (RD.pd d h1) s1.sb (by have := s1.depth; omega) (by omega) k2) k
mutual
theorem eqv_self : ∀ (d : PyData), d.hasDict = false → PyData.eqv d d = true
  | .none, _ => by simp [PyData.eqv]
  | .bool _, _ => by simp [PyData.eqv]
  | .int _, _ => by simp [PyData.eqv]
  | .str _, _ => by simp [PyData.eqv]
  | .tuple ds, h => by simp only [PyData.eqv]; exact eqvAll_self ds (by simpa [PyData.hasDict] using h)
  | .list ds, h => by simp only [PyData.eqv]; exact eqvAll_self ds (by simpa [PyData.hasDict] using h)
  | .dict _, h => by simp [PyData.hasDict] at h
theorem eqvAll_self : ∀ (ds : List PyData), PyData.hasDictAll ds = false → PyData.eqvAll ds ds = true
  | [], _ => by simp [PyData.eqvAll]
  | d :: ds, h => by
    simp only [PyData.hasDictAll, Bool.or_eq_false_iff] at h
    simp only [PyData.eqvAll, eqv_self d h.1, eqvAll_self ds h.2, Bool.and_self]
end
/-! ### kinds -/
def kn : PyData → String
  | .none => "NoneType"
  | .bool _ => "bool"
  | .int _ => "int"
  | .str _ => "str"
  | .list _ => "list"
  | .tuple _ => "tuple"
  | .dict _ => "dict"
theorem tyName_rd {d : PyData} {x : Val} (h : RD b st d x) : tyName x st = some (kn d) := by
  cases d <;> (rw [RD] at h)
  · subst h; rfl
  · subst h; rfl
  · subst h; rfl
  · subst h; rfl
  · obtain ⟨l, xs, rfl, _, h1, _⟩ := h; simp only [tyName, h1]; rfl
  · obtain ⟨xs, rfl, _⟩ := h; rfl
  · exact h.elim
theorem isi_rd {d : PyData} {x : Val} {t : String} {r : Bool} (h : RD b st d x) (hk : kitB (kn d) t = some r) : two' oIsi [x, .ty t] st = .ok (.bl r) st := by
  show oIsi x (.ty t) st = _
  unfold oIsi
  rw [tyName_rd h]
  simp only [hk]
def isIntD : PyData → Bool
  | .int _ => true
  | .bool _ => true
  | _ => false
def isBoolD : PyData → Bool
  | .bool _ => true
  | _ => false
def isStrD : PyData → Bool
  | .str _ => true
  | _ => false
def isTupD : PyData → Bool
  | .tuple _ => true
  | _ => false
theorem isi_int {d : PyData} {x : Val} (h : RD b st d x) : two' oIsi [x, .ty "int"] st = .ok (.bl (isIntD d)) st := isi_rd h (by cases d <;> simp only [kn, isIntD] <;> first | decide +kernel | (simp [RD] at h))
theorem isi_bool {d : PyData} {x : Val} (h : RD b st d x) : two' oIsi [x, .ty "bool"] st = .ok (.bl (isBoolD d)) st := isi_rd h (by cases d <;> simp only [kn, isBoolD] <;> first | decide +kernel | (simp [RD] at h))
theorem isi_str {d : PyData} {x : Val} (h : RD b st d x) : two' oIsi [x, .ty "str"] st = .ok (.bl (isStrD d)) st := isi_rd h (by cases d <;> simp only [kn, isStrD] <;> first | decide +kernel | (simp [RD] at h))
theorem isi_tup {d : PyData} {x : Val} (h : RD b st d x) : two' oIsi [x, .ty "tuple"] st = .ok (.bl (isTupD d)) st := isi_rd h (by cases d <;> simp only [kn, isTupD] <;> first | decide +kernel | (simp [RD] at h))
/-! ### parts -/
theorem ix_tup {ds : List PyData} {x : Val} {i : Nat} {d : PyData} (h : RD b st (.tuple ds) x) (e : ds[i]? = some d) : ∃ y, RD b st d y ∧ oIx x (.int (i : Int)) st = .ok y st := by
  rw [RD] at h
  obtain ⟨xs, rfl, h⟩ := h
  obtain ⟨y, h1, h2⟩ := h.get e
  exact ⟨y, h2, by simp [oIx, seqOf, atI_nat h1]⟩
theorem ix_wp {ds : List PyData} {x : Val} {i : Nat} {z : Int} {d : PyData} {E : Xn → Sto → Prop} {Q : Val → Sto → Prop} (h : RD b st (.tuple ds) x) (hz : z = (i : Int)) (e : ds[i]? = some d) (k : ∀ y, RD b st d y → Q y st) : Wp (oIx x (.int z) st) Q E := by
  obtain ⟨y, h1, h2⟩ := ix_tup h e
  subst hz
  exact Wp_of h2 (k y h1)
theorem len_tup {ds : List PyData} {x : Val} (h : RD b st (.tuple ds) x) : one' oLen [x] st = .ok (.int ds.length) st := by
  rw [RD] at h
  obtain ⟨xs, rfl, h⟩ := h
  simp [one', oLen, seqOf, h.length]
theorem len_lst {ds : List PyData} {x : Val} (h : RD b st (.list ds) x) : one' oLen [x] st = .ok (.int ds.length) st := by
  rw [RD] at h
  obtain ⟨l, xs, rfl, _, h1, h⟩ := h
  simp [one', oLen, seqOf, h1, h.length]
theorem cutL_rds {ds : List PyData} {xs : List Val} {lo hi : Option Int} (h : RDs b st ds xs) : RDs b st (cutL ds lo hi) (cutL xs lo hi) := by
  unfold cutL
  rw [h.length]
  exact (h.drop _).take _
theorem cutL_full {α : Type} (xs : List α) {lo hi : Option Int} (h : HT.sIx xs.length 0 lo = 0 ∧ HT.sIx xs.length xs.length hi = xs.length) : cutL xs lo hi = xs := by
  unfold cutL
  rw [h.1, h.2]
  simp
/-- t[lo:hi] -/
theorem sl_tup {ds : List PyData} {x : Val} {lo hi : Option Int} (h : RD b st (.tuple ds) x) : ∃ y, RD b st (.tuple (cutL ds lo hi)) y ∧ slO x lo hi st = .ok y st := by
  rw [RD] at h
  obtain ⟨xs, rfl, h⟩ := h
  show ∃ y, _ ∧ (R.ok (if HT.sIx xs.length 0 lo = 0 ∧ HT.sIx xs.length xs.length hi = xs.length then Val.tup xs else .tup (cutL xs lo hi)) st) = .ok y st
  split
  · rename_i hf
    refine ⟨_, .tup ?_, rfl⟩
    have := cutL_rds (lo := lo) (hi := hi) h
    rwa [cutL_full xs hf] at this
  · exact ⟨_, .tup (cutL_rds h), rfl⟩
theorem sl_wp {ds : List PyData} {x : Val} {lo hi : Option Int} {E : Xn → Sto → Prop} {Q : Val → Sto → Prop} (h : RD b st (.tuple ds) x) (k : ∀ y, RD b st (.tuple (cutL ds lo hi)) y → Q y st) : Wp (slO x lo hi st) Q E := by
  obtain ⟨y, h1, h2⟩ := sl_tup (lo := lo) (hi := hi) h
  exact Wp_of h2 (k y h1)
theorem cutL_from {α : Type} (xs : List α) (i : Nat) : cutL xs (some (i : Int)) none = xs.drop i := by
  unfold cutL
  rw [HT.sIx_nat]
  show (xs.drop (min i xs.length)).take (xs.length - min i xs.length) = _
  rcases Nat.le_total i xs.length with h | h
  · rw [Nat.min_eq_left h, List.take_of_length_le (by simp)]
  · rw [Nat.min_eq_right h, List.drop_eq_nil_of_le h]; simp
theorem cutL_to {α : Type} (xs : List α) (i : Nat) : cutL xs none (some (i : Int)) = xs.take i := by
  unfold cutL
  rw [HT.sIx_nat]
  show (xs.drop 0).take (min i xs.length - 0) = _
  rw [List.drop_zero, Nat.sub_zero]
  rcases Nat.le_total i xs.length with h | h
  · rw [Nat.min_eq_left h]
  · rw [Nat.min_eq_right h, List.take_of_length_le (Nat.le_refl _), List.take_of_length_le h]
theorem cutL_mid {α : Type} (xs : List α) (i j : Nat) : cutL xs (some (i : Int)) (some (j : Int)) = (xs.drop i).take (j - i) := by
  unfold cutL
  rw [HT.sIx_nat, HT.sIx_nat]
  rcases Nat.le_total i xs.length with h | h
  · rw [Nat.min_eq_left h]
    rcases Nat.le_total j xs.length with h2 | h2
    · rw [Nat.min_eq_left h2]
    · rw [Nat.min_eq_right h2]
      rw [List.take_of_length_le (by simp), List.take_of_length_le (by simp; omega)]
  · rw [Nat.min_eq_right h, List.drop_eq_nil_of_le (Nat.le_refl _), List.drop_eq_nil_of_le h]; simp
/-- t + u -/
theorem add_tup {ds es : List PyData} {x y : Val} (h : RD b st (.tuple ds) x) (h' : RD b st (.tuple es) y) (hl : ds.length + es.length ≤ 16777216) : ∃ z, RD b st (.tuple (ds ++ es)) z ∧ oAdd x y st = .ok z st := by
  rw [RD] at h h'
  obtain ⟨xs, rfl, h⟩ := h
  obtain ⟨ys, rfl, h'⟩ := h'
  refine ⟨.tup (xs ++ ys), .tup (h.append h'), ?_⟩
  have hz : xs.length + ys.length ≤ 16777216 := by rw [h.length, h'.length]; exact hl
  have ht : tupLen (xs.length + ys.length) = true := by simp [tupLen, hz]
  simp [oAdd, ht, hz]
theorem add_wp {ds es : List PyData} {x y : Val} {E : Xn → Sto → Prop} {Q : Val → Sto → Prop} (h : RD b st (.tuple ds) x) (h' : RD b st (.tuple es) y) (hl : ds.length + es.length ≤ 16777216) (k : ∀ z, RD b st (.tuple (ds ++ es)) z → Q z st) : Wp (oAdd x y st) Q E := by
  obtain ⟨z, h1, h2⟩ := add_tup h h' hl
  exact Wp_of h2 (k z h1)
end
mutual
/-- no lists within -/
def nol : PyData → Bool
  | .list _ => false
  | .tuple ds => nols ds
  | _ => true
def nols : List PyData → Bool
  | [] => true
  | d :: ds => nol d && nols ds
end
section
variable {b b' : Nat} {st st' : Sto}
mutual
theorem RD.any : ∀ (d : PyData) {x : Val}, nol d = true → RD b st d x → RD b' st' d x
  | .none, _, _, h => by rw [RD] at h ⊢; exact h
  | .bool _, _, _, h => by rw [RD] at h ⊢; exact h
  | .int _, _, _, h => by rw [RD] at h ⊢; exact h
  | .str _, _, _, h => by rw [RD] at h ⊢; exact h
  | .tuple ds, _, q, h => by
    rw [RD] at h ⊢
    obtain ⟨xs, e, h⟩ := h
    exact ⟨xs, e, RDs.any ds (by simpa [nol] using q) h⟩
  | .list ds, _, q, h => by simp [nol] at q
  | .dict _, _, _, h => by simp [RD] at h
theorem RDs.any : ∀ (ds : List PyData) {xs : List Val}, nols ds = true → RDs b st ds xs → RDs b' st' ds xs
  | [], _, _, h => by rw [RDs] at h ⊢; exact h
  | d :: ds, _, q, h => by
    rw [RDs] at h ⊢
    obtain ⟨x, r, e, h1, h2⟩ := h
    simp only [nols, Bool.and_eq_true] at q
    exact ⟨x, r, e, RD.any d q.1 h1, RDs.any ds q.2 h2⟩
end
theorem nols_all : ∀ {ds : List PyData}, (∀ d ∈ ds, nol d = true) → nols ds = true
  | [], _ => rfl
  | d :: ds, h => by simp [nols, h d List.mem_cons_self, nols_all fun x hx => h x (List.mem_cons_of_mem _ hx)]
theorem nols_ints (ns : List Int) : nols (ns.map PyData.int) = true := nols_all fun d hd => by obtain ⟨i, _, rfl⟩ := List.mem_map.mp hd; rfl
end
/-- a list of drawn things -/
theorem lc_draws {b d c i : Nat} {mi : Ix} {M : Ex} {vs : List Nat} {env : Env} {st st1 : Sto} {items : List Val} {gd : List (Nat × Ob)} {Q : Val → Sto → Prop} {E : Xn → Sto → Prop} (P : PyData → Prop) (hP0 : ∀ d, P d → nol d = true) (hmi : mi env st = .ok (items, gd) st1) (hgd : ∀ p ∈ gd, b ≤ p.1 ∧ st1[p.1]? = some p.2) (h : HS b d c st1) (hl : items.length < 16777216)
    (hM : ∀ x s, x ∈ items → HS b d c s → Gr b st1 s → Wp (M ((wipeE env vs).set i (some x)) s) (fun v s' => HS b d c s' ∧ Gr b s s' ∧ ∃ dv, P dv ∧ RD b s' dv v) noX)
    (k : ∀ ds xs s, HS b d c s → Gr b st1 s → s[st1.length]? = some (.lst xs) → RDs b s ds xs → ds.length = items.length → (∀ x ∈ ds, P x) → Q (.loc st1.length) s) : Wp (eLc mi (gNm i) tYes' M vs env st) Q E := by
  rw [W_lc, hmi, Wp_ok]
  have hst := h.hb
  refine lcL_wp (fun xs acc s => (∃ pre, items = pre ++ xs) ∧ HS b d c s ∧ Gr b st1 s ∧ s[st1.length]? = some (.lst acc) ∧ ∃ ds, RDs b s ds acc ∧ (∀ x ∈ ds, P x) ∧ ds.length + xs.length = items.length) (fun xs acc s ⟨_, _, g, _⟩ p hp => g.at (hgd p hp).1 (hgd p hp).2) (fun acc s ⟨_, hs, g, h1, ds, hd, hP, hn⟩ => ?h0) (fun y r acc s ⟨⟨pre, hpre⟩, hs, g, h1, ds, hd, hP, hn⟩ => ?hs) _ [] _
    ⟨⟨[], rfl⟩, h.app _, .app _, at_new, [], .nil, fun _ h => (by cases h), by simp⟩
  case h0 => exact k ds acc s hs g h1 hd (by simpa using hn) hP
  case hs =>
    have hacc := hd.length
    simp only [List.length_cons] at hn
    refine ⟨by omega, _, rfl, ?_⟩
    rw [W_tYes, if_pos rfl]
    refine (hM y s (by rw [hpre]; simp) hs g).imp (fun v s' ⟨hs', g', dv, p1, p2⟩ => ?_) fun _ _ z => z
    have e1 := g'.at hst h1
    refine ⟨e1, ⟨pre ++ [y], by rw [hpre]; simp⟩, hs'.setNew hst, (g.trans g').setNew (Nat.le_refl _), List.getElem?_set_self (List.getElem?_eq_some_iff.mp e1).1, ds ++ [dv], ?_, fun x hx => ?_, by simp; omega⟩
    · exact (RDs.any ds (nols_all fun x hx => hP0 x (hP x hx)) hd).append (.cons (RD.any dv (hP0 dv p1) p2) .nil)
    · rcases List.mem_append.mp hx with w | w
      · exact hP x w
      · rw [List.mem_singleton.mp w]; exact p1
theorem Smls.append {n m m' : Nat} : ∀ {ds es : List PyData}, Smls n m ds → Smls n m' es → Smls n (m + m') (ds ++ es)
  | [], es, _, h => h.mono (Nat.le_refl _) (by omega)
  | d :: ds, es, h, t => by
    have h1 := h.sb.s
    have h2 := h.sb.l
    have h3 := h.sb.h
    have h4 := h.sb.dp
    have h5 := h.sb.b
    have h6 := h.lay
    simp only [PyData.showableAll, PyData.leavesShortAll, PyData.hasDictAll, PyData.depthAll, PyData.bulkAll, PyData.canLayAll0, Bool.and_eq_true, Bool.or_eq_false_iff] at h1 h2 h3 h4 h5 h6
    have q := Smls.append (m := m - d.bulk - 1) ⟨⟨h1.2, h2.2, h3.2, by omega, by omega⟩, h6.2⟩ t
    have q0 : Sml n d.bulk d := ⟨⟨h1.1, h2.1, h3.1, by omega, Nat.le_refl _⟩, h6.1⟩
    exact (Smls.cons' q0 q).mono (Nat.le_refl _) (by omega)
theorem Smls.sub {n m : Nat} : ∀ {ds es : List PyData}, Smls n m ds → es.Sublist ds → 1 ≤ n → Smls n m es
  | _, _, h, .slnil, hn => h
  | d :: ds, es, h, .cons _ t, hn => by
    have h1 := h.sb.s
    have h2 := h.sb.l
    have h3 := h.sb.h
    have h4 := h.sb.dp
    have h5 := h.sb.b
    have h6 := h.lay
    simp only [PyData.showableAll, PyData.leavesShortAll, PyData.hasDictAll, PyData.depthAll, PyData.bulkAll, PyData.canLayAll0, Bool.and_eq_true, Bool.or_eq_false_iff] at h1 h2 h3 h4 h5 h6
    exact (Smls.sub (m := m) ⟨⟨h1.2, h2.2, h3.2, by omega, by omega⟩, h6.2⟩ t hn)
  | d :: ds, _ :: es, h, .cons_cons _ t, hn => by
    have h1 := h.sb.s
    have h2 := h.sb.l
    have h3 := h.sb.h
    have h4 := h.sb.dp
    have h5 := h.sb.b
    have h6 := h.lay
    simp only [PyData.showableAll, PyData.leavesShortAll, PyData.hasDictAll, PyData.depthAll, PyData.bulkAll, PyData.canLayAll0, Bool.and_eq_true, Bool.or_eq_false_iff] at h1 h2 h3 h4 h5 h6
    have q := Smls.sub (m := m - d.bulk - 1) ⟨⟨h1.2, h2.2, h3.2, by omega, by omega⟩, h6.2⟩ t hn
    have q0 : Sml n d.bulk d := ⟨⟨h1.1, h2.1, h3.1, by omega, Nat.le_refl _⟩, h6.1⟩
    exact (Smls.cons' q0 q).mono (Nat.le_refl _) (by omega)
theorem cutL_sub {α : Type} (xs : List α) (lo hi : Option Int) : (cutL xs lo hi).Sublist xs := by
  unfold cutL
  exact (List.take_sublist _ _).trans (List.drop_sublist _ _)
theorem Sml.parts {n m : Nat} {ds : List PyData} (h : Sml (n + 1) m (.tuple ds)) : Smls n m ds := by
  have h1 := h.sb.s
  have h2 := h.sb.l
  have h3 := h.sb.h
  have h4 := h.sb.dp
  have h5 := h.sb.b
  have h6 := h.lay
  simp only [PyData.showable, PyData.leavesShort, PyData.hasDict, PyData.depth, PyData.bulk, PyData.canLay0] at h1 h2 h3 h4 h5 h6
  exact ⟨⟨h1, h2, h3, by omega, h5⟩, h6⟩
end Sm


/-! The mirrors of the defs that this law reaches, and the proofs that each def computes its mirror. Printed by gen.py, emit.py. -/
namespace Lw
open PySem L2 Sm
def top (i : Nat) : Stmt := PySem.Challenge.pw_putinonce_k73_any_values_as_scripts.main.body.getD i (.Pass ⟨0, 0, 0, 0⟩)
def T_exm : Str → Str → Option Bool := pairs [((("InvalidLetter" : Str), ("InvalidLetter" : Str)), true), ((("InvalidLetter" : Str), ("InvalidScript" : Str)), false), ((("InvalidScript" : Str), ("InvalidLetter" : Str)), false), ((("InvalidScript" : Str), ("InvalidScript" : Str)), true)]
def T_xf : Str → Str → Bool := xfs [(("InvalidScript" : Str), ("at" : Str))]
def T_isx : Str → Str → Option Bool := pairs [((("InvalidScript" : Str), ("TunnelError" : Str)), true)]
abbrev T_dicL : List (Str × List (Str × Str)) := [(("LOOKS" : Str), [(("put" : Str), ("is_put" : Str)), (("bring" : Str), ("is_numbered" : Str)), (("bend" : Str), ("is_bend" : Str)), (("forge" : Str), ("is_forge" : Str)), (("again" : Str), ("is_again" : Str)), (("drop" : Str), ("is_numbered" : Str)), (("move" : Str), ("is_move" : Str)), (("tick" : Str), ("is_numbered" : Str))])]
def T_dic : Str → Option (List (Str × Str)) := fun x => T_dicL.lookup x
/-- what the top has written -/
structure Txt (P : Program) (w : World) (K : PySem.W.Frag) (mg : Str → Option Value) : Prop where
  n_abs : mg ("abs" : Str) = none
  n_all : mg ("all" : Str) = none
  n_bool : mg ("bool" : Str) = none
  n_enumerate : mg ("enumerate" : Str) = none
  n_int : mg ("int" : Str) = none
  n_isinstance : mg ("isinstance" : Str) = none
  n_len : mg ("len" : Str) = none
  n_list : mg ("list" : Str) = none
  n_max : mg ("max" : Str) = none
  n_range : mg ("range" : Str) = none
  n_repr : mg ("repr" : Str) = none
  n_str : mg ("str" : Str) = none
  n_tuple : mg ("tuple" : Str) = none
  g_ADDRESSES : ∃ t, mg ("ADDRESSES" : Str) = some (.int 4294967296 t)
  g_MOST : ∃ t, mg ("MOST" : Str) = some (.int 65535 t)
  d_is_text : Df K mg ("is_text" : Str) (top 8) []
  d_is_integer : Df K mg ("is_integer" : Str) (top 5) []
  d_is_below : Df K mg ("is_below" : Str) (top 7) []
  d_is_tuple_of : Df K mg ("is_tuple_of" : Str) (top 9) []
  d_wrong_place : Df K mg ("wrong_place" : Str) (top 11) []
  d_is_octets : Df K mg ("is_octets" : Str) (top 12) []
  d_need_letter : Df K mg ("need_letter" : Str) (top 16) []
  d_is_letter : Df K mg ("is_letter" : Str) (top 18) []
  d_is_put : Df K mg ("is_put" : Str) (top 19) []
  d_is_number : Df K mg ("is_number" : Str) (top 6) []
  d_is_numbered : Df K mg ("is_numbered" : Str) (top 20) []
  d_is_bend : Df K mg ("is_bend" : Str) (top 21) []
  d_is_forge : Df K mg ("is_forge" : Str) (top 22) []
  d_is_again : Df K mg ("is_again" : Str) (top 23) []
  d_is_move : Df K mg ("is_move" : Str) (top 24) []
  d_is_event : Df K mg ("is_event" : Str) (top 26) []
  d_need_script : Df K mg ("need_script" : Str) (top 27) []
  d_script_of : Df K mg ("script_of" : Str) (top 28) []
  d__law_heap : Df K mg ("_law_heap" : Str) (top 30) []
  d__law_draw : Df K mg ("_law_draw" : Str) (top 31) []
  d__law_pick : Df K mg ("_law_pick" : Str) (top 32) []
  d__law_octets : Df K mg ("_law_octets" : Str) (top 33) []
  d__law_letter : Df K mg ("_law_letter" : Str) (top 34) []
  d__law_event : Df K mg ("_law_event" : Str) (top 35) []
  d__law_heard : Df K mg ("_law_heard" : Str) (top 40) []
  d__law_number : Df K mg ("_law_number" : Str) (top 36) []
  d__law_is_octets : Df K mg ("_law_is_octets" : Str) (top 37) []
  d__law_is_letter : Df K mg ("_law_is_letter" : Str) (top 38) []
  d__law_is_event : Df K mg ("_law_is_event" : Str) (top 39) []
  d__law_due : Df K mg ("_law_due" : Str) (top 41) []
  d__law_spoilt : Df K mg ("_law_spoilt" : Str) (top 42) []
  d_law : Df K mg ("law" : Str) (top 43) []
  x_InvalidLetter : XcOk P K mg ("InvalidLetter" : Str) ("at" : Str)
  x_InvalidScript : XcOk P K mg ("InvalidScript" : Str) ("at" : Str)
  c_InvalidLetter : ∃ D, mg ("InvalidLetter" : Str) = some (.ref D)
  c_InvalidScript : ∃ D, mg ("InvalidScript" : Str) = some (.ref D)
  c_TunnelError : ∃ D, mg ("TunnelError" : Str) = some (.ref D)
  dic : GDics K w mg T_dic
  exm : ExmOk K mg T_exm
  xf : XfOk K mg T_xf
  isx : IsxOk K mg T_isx
section
variable {P : Program} {w : World} {K : PySem.W.Frag} {mg : Str → Option Value} {base : Heap}
/-! ### is_text -/
abbrev N_is_text : List Str := ["value"]
theorem nd_is_text : N_is_text.Nodup := by decide +kernel
noncomputable def b_is_text : Sx :=
  (sRet (eCall (two' oIsi) (aCons (eVar 0) (aCons (eC (.ty "str")) aNil))))
noncomputable def m_is_text : Fx := runB 1 b_is_text
theorem sc_is_text : FnScope N_is_text ["value"] (defScope (top 8)) := ⟨rfl, rfl, rfl, nd_is_text, rfl, by decide +kernel, by decide +kernel⟩
theorem sm_is_text (T : Txt P w K mg) : SimSs P w K mg base { N := N_is_text, sc := defScope (top 8), k := 0 } (defBody (top 8)) b_is_text :=
  (simSs_one (simS_ret (simE_callB (ok_isi) rfl T.n_isinstance rfl (simA_cons (simE_var rfl (.inl rfl)) (simA_cons (simE_ty rfl T.n_str rfl) simA_nil (fun _ => rfl)) (fun _ => rfl)) (fun _ => rfl) (fun _ => rfl))))
theorem ok_is_text (T : Txt P w K mg) : Cal P w K mg base 1 ("is_text" : Str) [("value" : Str)] m_is_text [⟨1, [], [.inl 0], []⟩] := cal0 T.d_is_text sc_is_text (sm_is_text T) (ways_cons ⟨rfl, rfl, fun kV doc pm an cdv ct us ws hu hw => by match us, ws, hu, hw with | [u0], [], _, _ => rfl⟩ ways_nil)
/-! ### is_integer -/
abbrev N_is_integer : List Str := ["value"]
theorem nd_is_integer : N_is_integer.Nodup := by decide +kernel
noncomputable def b_is_integer : Sx :=
  (sRet (eAnd (eCall (two' oIsi) (aCons (eVar 0) (aCons (eC (.ty "int")) aNil))) (eNot (eCall (two' oIsi) (aCons (eVar 0) (aCons (eC (.ty "bool")) aNil))))))
noncomputable def m_is_integer : Fx := runB 1 b_is_integer
theorem sc_is_integer : FnScope N_is_integer ["value"] (defScope (top 5)) := ⟨rfl, rfl, rfl, nd_is_integer, rfl, by decide +kernel, by decide +kernel⟩
theorem sm_is_integer (T : Txt P w K mg) : SimSs P w K mg base { N := N_is_integer, sc := defScope (top 5), k := 0 } (defBody (top 5)) b_is_integer :=
  (simSs_one (simS_ret (simE_and (simE_callB (ok_isi) rfl T.n_isinstance rfl (simA_cons (simE_var rfl (.inl rfl)) (simA_cons (simE_ty rfl T.n_int rfl) simA_nil (fun _ => rfl)) (fun _ => rfl)) (fun _ => rfl) (fun _ => rfl)) (simE_one (simE_not (simE_callB (ok_isi) rfl T.n_isinstance rfl (simA_cons (simE_var rfl (.inl rfl)) (simA_cons (simE_ty rfl T.n_bool rfl) simA_nil (fun _ => rfl)) (fun _ => rfl)) (fun _ => rfl) (fun _ => rfl)))))))
theorem ok_is_integer (T : Txt P w K mg) : Cal P w K mg base 1 ("is_integer" : Str) [("value" : Str)] m_is_integer [⟨1, [], [.inl 0], []⟩] := cal0 T.d_is_integer sc_is_integer (sm_is_integer T) (ways_cons ⟨rfl, rfl, fun kV doc pm an cdv ct us ws hu hw => by match us, ws, hu, hw with | [u0], [], _, _ => rfl⟩ ways_nil)
/-! ### is_below -/
abbrev N_is_below : List Str := ["value", "bound"]
theorem nd_is_below : N_is_below.Nodup := by decide +kernel
noncomputable def b_is_below : Sx :=
  (sRet (eAnd (eCallF m_is_integer [.inl 0] [] (aCons (eVar 0) aNil)) (eChain oLe oLt (eC (.int 0)) (eVar 0) (eVar 1))))
noncomputable def m_is_below : Fx := runB 2 b_is_below
theorem sc_is_below : FnScope N_is_below ["value", "bound"] (defScope (top 7)) := ⟨rfl, rfl, rfl, nd_is_below, rfl, by decide +kernel, by decide +kernel⟩
theorem sm_is_below (T : Txt P w K mg) : SimSs P w K mg base { N := N_is_below, sc := defScope (top 7), k := 1 } (defBody (top 7)) b_is_below :=
  (simSs_one (simS_ret (simE_and (simE_cal (q := ⟨1, [], [.inl 0], []⟩) rfl (ok_is_integer T) (.head _) (by decide) rfl (simC_pos (simA_cons (simE_var rfl (.inl rfl)) simA_nil (fun _ => rfl)) (aLen_cons aLen_nil) (fun _ => rfl) (fun _ _ => rfl))) (simE_one (simE_chain ok_leI ok_ltI simE_int (simE_var rfl (.inl rfl)) (simE_var rfl (.inl rfl)) rfl)))))
theorem ok_is_below (T : Txt P w K mg) : Cal P w K mg base 2 ("is_below" : Str) [("value" : Str), ("bound" : Str)] m_is_below [⟨2, [], [.inl 0, .inl 1], []⟩] := cal0 T.d_is_below sc_is_below (sm_is_below T) (ways_cons ⟨rfl, rfl, fun kV doc pm an cdv ct us ws hu hw => by match us, ws, hu, hw with | [u0, u1], [], _, _ => rfl⟩ ways_nil)
/-! ### is_tuple_of -/
abbrev N_is_tuple_of : List Str := ["value", "size"]
theorem nd_is_tuple_of : N_is_tuple_of.Nodup := by decide +kernel
noncomputable def b_is_tuple_of : Sx :=
  (sRet (eAnd (eCall (two' oIsi) (aCons (eVar 0) (aCons (eC (.ty "tuple")) aNil))) (eOp (oEq false) (eCall (one' oLen) (aCons (eVar 0) aNil)) (eVar 1))))
noncomputable def m_is_tuple_of : Fx := runB 2 b_is_tuple_of
theorem sc_is_tuple_of : FnScope N_is_tuple_of ["value", "size"] (defScope (top 9)) := ⟨rfl, rfl, rfl, nd_is_tuple_of, rfl, by decide +kernel, by decide +kernel⟩
theorem sm_is_tuple_of (T : Txt P w K mg) : SimSs P w K mg base { N := N_is_tuple_of, sc := defScope (top 9), k := 0 } (defBody (top 9)) b_is_tuple_of :=
  (simSs_one (simS_ret (simE_and (simE_callB (ok_isi) rfl T.n_isinstance rfl (simA_cons (simE_var rfl (.inl rfl)) (simA_cons (simE_ty rfl T.n_tuple rfl) simA_nil (fun _ => rfl)) (fun _ => rfl)) (fun _ => rfl) (fun _ => rfl)) (simE_one (simE_cmp (ok_eq rfl) (simE_callB (ok_len) rfl T.n_len rfl (simA_cons (simE_var rfl (.inl rfl)) simA_nil (fun _ => rfl)) (fun _ => rfl) (fun _ => rfl)) (simE_var rfl (.inl rfl)) rfl)))))
theorem ok_is_tuple_of (T : Txt P w K mg) : Cal P w K mg base 1 ("is_tuple_of" : Str) [("value" : Str), ("size" : Str)] m_is_tuple_of [⟨2, [], [.inl 0, .inl 1], []⟩] := cal0 T.d_is_tuple_of sc_is_tuple_of (sm_is_tuple_of T) (ways_cons ⟨rfl, rfl, fun kV doc pm an cdv ct us ws hu hw => by match us, ws, hu, hw with | [u0, u1], [], _, _ => rfl⟩ ways_nil)
/-! ### wrong_place -/
abbrev N_wrong_place : List Str := ["value", "size", "at", "thing"]
theorem nd_wrong_place : N_wrong_place.Nodup := by decide +kernel
noncomputable def b_wrong_place : Sx :=
  (sSeq (sFor (iEnum' (eVar 0)) (gTup' 2 (gCons' (gNm 2) (gCons' (gNm 3) gNil')))
    (sIf (tOr' (tNot' (tVal (eCallF m_is_below [.inl 0, .inl 1] [] (aCons (eVar 3) (aCons (eC (.int 256)) aNil))))) (tVal (eOp (oEq false) (eVar 2) (eVar 1)))) (sRet (eVar 2)) sNil))
    (sRet (eIf (tAnd' (tVal (eOp (oIsN true) (eVar 1) (eC .non))) (tVal (eOp oLt (eCall (one' oLen) (aCons (eVar 0) aNil)) (eVar 1)))) (eCall (one' oLen) (aCons (eVar 0) aNil)) (eC .non))))
noncomputable def m_wrong_place : Fx := runB 4 b_wrong_place
theorem sc_wrong_place : FnScope N_wrong_place ["value", "size"] (defScope (top 11)) := ⟨rfl, rfl, rfl, nd_wrong_place, rfl, by decide +kernel, by decide +kernel⟩
theorem sm_wrong_place (T : Txt P w K mg) : SimSs P w K mg base { N := N_wrong_place, sc := defScope (top 11), k := 2 } (defBody (top 11)) b_wrong_place :=
  (simSs_cons (simS_for rfl (simI_enum rfl T.n_enumerate (simE_var rfl (.inl rfl)) (fun _ => rfl)) (simG_tup rfl (simGs_cons (simG_name nd_wrong_place rfl (.inl rfl) (.inl rfl)) (simGs_cons (simG_name nd_wrong_place rfl (.inl rfl) (.inl rfl)) simGs_nil (fun _ => rfl)) (fun _ => rfl)) (fun _ => rfl) (fun _ => rfl))
    (simSs_one (simS_if (simT_W (simW_or (simT_not (simT_val (simE_cal (q := ⟨2, [], [.inl 0, .inl 1], []⟩) rfl (ok_is_below T) (.head _) (by decide) rfl (simC_pos (simA_cons (simE_var rfl (.inl rfl)) (simA_cons simE_int simA_nil (fun _ => rfl)) (fun _ => rfl)) (aLen_cons (aLen_cons aLen_nil)) (fun _ => rfl) (fun _ _ => rfl))) (fun _ _ => rfl))) (simW_or1 (simT_cmp (ok_eq rfl) (simE_var rfl (.inl rfl)) (simE_var rfl (.inl rfl)) rfl)))) (simSs_one (simS_ret (simE_var rfl (.inl rfl)))) simSs_nil)) (fun _ _ => rfl))
    (simSs_one (simS_ret (simE_if (simT_W (simW_and (simT_cmp ok_isnot (simE_var rfl (.inl rfl)) simE_non rfl) (simW_and1 (simT_cmp ok_ltI (simE_callB (ok_len) rfl T.n_len rfl (simA_cons (simE_var rfl (.inl rfl)) simA_nil (fun _ => rfl)) (fun _ => rfl) (fun _ => rfl)) (simE_var rfl (.inl rfl)) rfl)))) (simE_callB (ok_len) rfl T.n_len rfl (simA_cons (simE_var rfl (.inl rfl)) simA_nil (fun _ => rfl)) (fun _ => rfl) (fun _ => rfl)) simE_non))))
theorem ok_wrong_place (T : Txt P w K mg) : Cal P w K mg base 3 ("wrong_place" : Str) [("value" : Str), ("size" : Str)] m_wrong_place [⟨2, [], [.inl 0, .inl 1], []⟩] := cal0 T.d_wrong_place sc_wrong_place (sm_wrong_place T) (ways_cons ⟨rfl, rfl, fun kV doc pm an cdv ct us ws hu hw => by match us, ws, hu, hw with | [u0, u1], [], _, _ => rfl⟩ ways_nil)
/-! ### is_octets -/
abbrev N_is_octets : List Str := ["value"]
theorem nd_is_octets : N_is_octets.Nodup := by decide +kernel
noncomputable def b_is_octets : Sx :=
  (sRet (eAnd (eCall (two' oIsi) (aCons (eVar 0) (aCons (eC (.ty "tuple")) aNil))) (eOp (oIsN false) (eCallF m_wrong_place [.inl 0, .inl 1] [] (aCons (eVar 0) (aCons (eC .non) aNil))) (eC .non))))
noncomputable def m_is_octets : Fx := runB 1 b_is_octets
theorem sc_is_octets : FnScope N_is_octets ["value"] (defScope (top 12)) := ⟨rfl, rfl, rfl, nd_is_octets, rfl, by decide +kernel, by decide +kernel⟩
theorem sm_is_octets (T : Txt P w K mg) : SimSs P w K mg base { N := N_is_octets, sc := defScope (top 12), k := 3 } (defBody (top 12)) b_is_octets :=
  (simSs_one (simS_ret (simE_and (simE_callB (ok_isi) rfl T.n_isinstance rfl (simA_cons (simE_var rfl (.inl rfl)) (simA_cons (simE_ty rfl T.n_tuple rfl) simA_nil (fun _ => rfl)) (fun _ => rfl)) (fun _ => rfl) (fun _ => rfl)) (simE_one (simE_cmp ok_is (simE_cal (q := ⟨2, [], [.inl 0, .inl 1], []⟩) rfl (ok_wrong_place T) (.head _) (by decide) rfl (simC_pos (simA_cons (simE_var rfl (.inl rfl)) (simA_cons simE_non simA_nil (fun _ => rfl)) (fun _ => rfl)) (aLen_cons (aLen_cons aLen_nil)) (fun _ => rfl) (fun _ _ => rfl))) simE_non rfl)))))
theorem ok_is_octets (T : Txt P w K mg) : Cal P w K mg base 4 ("is_octets" : Str) [("value" : Str)] m_is_octets [⟨1, [], [.inl 0], []⟩] := cal0 T.d_is_octets sc_is_octets (sm_is_octets T) (ways_cons ⟨rfl, rfl, fun kV doc pm an cdv ct us ws hu hw => by match us, ws, hu, hw with | [u0], [], _, _ => rfl⟩ ways_nil)
/-! ### need_letter -/
abbrev N_need_letter : List Str := ["value", "at"]
theorem nd_need_letter : N_need_letter.Nodup := by decide +kernel
noncomputable def b_need_letter : Sx :=
  (sSeq (sIf (tNot' (tVal (eCallF m_is_tuple_of [.inl 0, .inl 1] [] (aCons (eVar 0) (aCons (eC (.int 3)) aNil))))) (sRaise ("InvalidLetter" : Str) ("at" : Str) (eUn oNeg (eC (.int 1)))) sNil)
    (sSeq (sFor (iRange1 (eC (.int 2))) (gNm 1)
    (sIf (tNot' (tVal (eCallF m_is_below [.inl 0, .inl 1] [] (aCons (eOp oIx (eVar 0) (eVar 1)) (aCons (eC (.int 4294967296)) aNil))))) (sRaise ("InvalidLetter" : Str) ("at" : Str) (eVar 1)) sNil))
    (sIf (tOr' (tNot' (tVal (eCallF m_is_octets [.inl 0] [] (aCons (eOp oIx (eVar 0) (eC (.int 2))) aNil)))) (tVal (eOp oGt (eCall (one' oLen) (aCons (eOp oIx (eVar 0) (eC (.int 2))) aNil)) (eC (.int 65535))))) (sRaise ("InvalidLetter" : Str) ("at" : Str) (eC (.int 2))) sNil)))
noncomputable def m_need_letter : Fx := runB 2 b_need_letter
theorem sc_need_letter : FnScope N_need_letter ["value"] (defScope (top 16)) := ⟨rfl, rfl, rfl, nd_need_letter, rfl, by decide +kernel, by decide +kernel⟩
theorem sm_need_letter (T : Txt P w K mg) : SimSs P w K mg base { N := N_need_letter, sc := defScope (top 16), k := 4 } (defBody (top 16)) b_need_letter :=
  (simSs_cons (simS_if (simT_not (simT_val (simE_cal (q := ⟨2, [], [.inl 0, .inl 1], []⟩) rfl (ok_is_tuple_of T) (.head _) (by decide) rfl (simC_pos (simA_cons (simE_var rfl (.inl rfl)) (simA_cons simE_int simA_nil (fun _ => rfl)) (fun _ => rfl)) (aLen_cons (aLen_cons aLen_nil)) (fun _ => rfl) (fun _ _ => rfl))) (fun _ _ => rfl))) (simSs_one (simS_raiseX rfl T.x_InvalidLetter rfl (simE_neg simE_int) (fun _ => rfl))) simSs_nil)
    (simSs_cons (simS_for rfl (simI_range1 rfl T.n_range simE_int (fun _ => rfl)) (simG_name nd_need_letter rfl (.inl rfl) (.inl rfl))
    (simSs_one (simS_if (simT_not (simT_val (simE_cal (q := ⟨2, [], [.inl 0, .inl 1], []⟩) rfl (ok_is_below T) (.head _) (by decide) rfl (simC_pos (simA_cons (simE_ix ok_ix (simE_var rfl (.inl rfl)) (simE_var rfl (.inl rfl)) (fun _ _ => rfl)) (simA_cons (simE_gint rfl T.g_ADDRESSES) simA_nil (fun _ => rfl)) (fun _ => rfl)) (aLen_cons (aLen_cons aLen_nil)) (fun _ => rfl) (fun _ _ => rfl))) (fun _ _ => rfl))) (simSs_one (simS_raiseX rfl T.x_InvalidLetter rfl (simE_var rfl (.inl rfl)) (fun _ => rfl))) simSs_nil)) (fun _ _ => rfl))
    (simSs_one (simS_if (simT_W (simW_or (simT_not (simT_val (simE_cal (q := ⟨1, [], [.inl 0], []⟩) rfl (ok_is_octets T) (.head _) (by decide) rfl (simC_pos (simA_cons (simE_ix ok_ix (simE_var rfl (.inl rfl)) simE_int (fun _ _ => rfl)) simA_nil (fun _ => rfl)) (aLen_cons aLen_nil) (fun _ => rfl) (fun _ _ => rfl))) (fun _ _ => rfl))) (simW_or1 (simT_cmp ok_gtI (simE_callB (ok_len) rfl T.n_len rfl (simA_cons (simE_ix ok_ix (simE_var rfl (.inl rfl)) simE_int (fun _ _ => rfl)) simA_nil (fun _ => rfl)) (fun _ => rfl) (fun _ => rfl)) (simE_gint rfl T.g_MOST) rfl)))) (simSs_one (simS_raiseX rfl T.x_InvalidLetter rfl simE_int (fun _ => rfl))) simSs_nil))))
theorem ok_need_letter (T : Txt P w K mg) : Cal P w K mg base 5 ("need_letter" : Str) [("value" : Str)] m_need_letter [⟨1, [], [.inl 0], []⟩] := cal0 T.d_need_letter sc_need_letter (sm_need_letter T) (ways_cons ⟨rfl, rfl, fun kV doc pm an cdv ct us ws hu hw => by match us, ws, hu, hw with | [u0], [], _, _ => rfl⟩ ways_nil)
/-! ### is_letter -/
abbrev N_is_letter : List Str := ["value"]
theorem nd_is_letter : N_is_letter.Nodup := by decide +kernel
noncomputable def b_is_letter : Sx :=
  (sSeq (sTry T_exm (sDrop (eCallF m_need_letter [.inl 0] [] (aCons (eVar 0) aNil))) [⟨("InvalidLetter" : Str), none, (sRet (eC (.bl false)))⟩])
    (sRet (eC (.bl true))))
noncomputable def m_is_letter : Fx := runB 1 b_is_letter
theorem sc_is_letter : FnScope N_is_letter ["value"] (defScope (top 18)) := ⟨rfl, rfl, rfl, nd_is_letter, rfl, by decide +kernel, by decide +kernel⟩
theorem sm_is_letter (T : Txt P w K mg) : SimSs P w K mg base { N := N_is_letter, sc := defScope (top 18), k := 5 } (defBody (top 18)) b_is_letter :=
  (simSs_cons (simS_try T.exm rfl rfl (simSs_one (simS_expr (simE_cal (q := ⟨1, [], [.inl 0], []⟩) rfl (ok_need_letter T) (.head _) (by decide) rfl (simC_pos (simA_cons (simE_var rfl (.inl rfl)) simA_nil (fun _ => rfl)) (aLen_cons aLen_nil) (fun _ => rfl) (fun _ _ => rfl))) (fun _ => rfl))) (simHs_cons T.c_InvalidLetter rfl (simSs_one (simS_ret simE_bl)) .nil))
    (simSs_one (simS_ret simE_bl)))
theorem ok_is_letter (T : Txt P w K mg) : Cal P w K mg base 6 ("is_letter" : Str) [("value" : Str)] m_is_letter [⟨1, [], [.inl 0], []⟩] := cal0 T.d_is_letter sc_is_letter (sm_is_letter T) (ways_cons ⟨rfl, rfl, fun kV doc pm an cdv ct us ws hu hw => by match us, ws, hu, hw with | [u0], [], _, _ => rfl⟩ ways_nil)
/-! ### is_put -/
abbrev N_is_put : List Str := ["parts", "many"]
theorem nd_is_put : N_is_put.Nodup := by decide +kernel
noncomputable def b_is_put : Sx :=
  (sRet (eAnd (eOp (oEq false) (eCall (one' oLen) (aCons (eVar 0) aNil)) (eC (.int 2))) (eAnd (eCallF m_is_below [.inl 0, .inl 1] [] (aCons (eOp oIx (eVar 0) (eC (.int 0))) (aCons (eVar 1) aNil))) (eCallF m_is_letter [.inl 0] [] (aCons (eOp oIx (eVar 0) (eC (.int 1))) aNil)))))
noncomputable def m_is_put : Fx := runB 2 b_is_put
theorem sc_is_put : FnScope N_is_put ["parts", "many"] (defScope (top 19)) := ⟨rfl, rfl, rfl, nd_is_put, rfl, by decide +kernel, by decide +kernel⟩
theorem sm_is_put (T : Txt P w K mg) : SimSs P w K mg base { N := N_is_put, sc := defScope (top 19), k := 6 } (defBody (top 19)) b_is_put :=
  (simSs_one (simS_ret (simE_and (simE_cmp (ok_eq rfl) (simE_callB (ok_len) rfl T.n_len rfl (simA_cons (simE_var rfl (.inl rfl)) simA_nil (fun _ => rfl)) (fun _ => rfl) (fun _ => rfl)) simE_int rfl) (simE_and (simE_cal (q := ⟨2, [], [.inl 0, .inl 1], []⟩) rfl (ok_is_below T) (.head _) (by decide) rfl (simC_pos (simA_cons (simE_ix ok_ix (simE_var rfl (.inl rfl)) simE_int (fun _ _ => rfl)) (simA_cons (simE_var rfl (.inl rfl)) simA_nil (fun _ => rfl)) (fun _ => rfl)) (aLen_cons (aLen_cons aLen_nil)) (fun _ => rfl) (fun _ _ => rfl))) (simE_one (simE_cal (q := ⟨1, [], [.inl 0], []⟩) rfl (ok_is_letter T) (.head _) (by decide) rfl (simC_pos (simA_cons (simE_ix ok_ix (simE_var rfl (.inl rfl)) simE_int (fun _ _ => rfl)) simA_nil (fun _ => rfl)) (aLen_cons aLen_nil) (fun _ => rfl) (fun _ _ => rfl))))))))
theorem ok_is_put (T : Txt P w K mg) : Cal P w K mg base 7 ("is_put" : Str) [("parts" : Str), ("many" : Str)] m_is_put [⟨2, [], [.inl 0, .inl 1], []⟩] := cal0 T.d_is_put sc_is_put (sm_is_put T) (ways_cons ⟨rfl, rfl, fun kV doc pm an cdv ct us ws hu hw => by match us, ws, hu, hw with | [u0, u1], [], _, _ => rfl⟩ ways_nil)
/-! ### is_number -/
abbrev N_is_number : List Str := ["value"]
theorem nd_is_number : N_is_number.Nodup := by decide +kernel
noncomputable def b_is_number : Sx :=
  (sRet (eAnd (eCallF m_is_integer [.inl 0] [] (aCons (eVar 0) aNil)) (eOp oGe (eVar 0) (eC (.int 0)))))
noncomputable def m_is_number : Fx := runB 1 b_is_number
theorem sc_is_number : FnScope N_is_number ["value"] (defScope (top 6)) := ⟨rfl, rfl, rfl, nd_is_number, rfl, by decide +kernel, by decide +kernel⟩
theorem sm_is_number (T : Txt P w K mg) : SimSs P w K mg base { N := N_is_number, sc := defScope (top 6), k := 1 } (defBody (top 6)) b_is_number :=
  (simSs_one (simS_ret (simE_and (simE_cal (q := ⟨1, [], [.inl 0], []⟩) rfl (ok_is_integer T) (.head _) (by decide) rfl (simC_pos (simA_cons (simE_var rfl (.inl rfl)) simA_nil (fun _ => rfl)) (aLen_cons aLen_nil) (fun _ => rfl) (fun _ _ => rfl))) (simE_one (simE_cmp ok_geI (simE_var rfl (.inl rfl)) simE_int rfl)))))
theorem ok_is_number (T : Txt P w K mg) : Cal P w K mg base 2 ("is_number" : Str) [("value" : Str)] m_is_number [⟨1, [], [.inl 0], []⟩] := cal0 T.d_is_number sc_is_number (sm_is_number T) (ways_cons ⟨rfl, rfl, fun kV doc pm an cdv ct us ws hu hw => by match us, ws, hu, hw with | [u0], [], _, _ => rfl⟩ ways_nil)
/-! ### is_numbered -/
abbrev N_is_numbered : List Str := ["parts", "many"]
theorem nd_is_numbered : N_is_numbered.Nodup := by decide +kernel
noncomputable def b_is_numbered : Sx :=
  (sRet (eAnd (eOp (oEq false) (eCall (one' oLen) (aCons (eVar 0) aNil)) (eC (.int 1))) (eCallF m_is_number [.inl 0] [] (aCons (eOp oIx (eVar 0) (eC (.int 0))) aNil))))
noncomputable def m_is_numbered : Fx := runB 2 b_is_numbered
theorem sc_is_numbered : FnScope N_is_numbered ["parts", "many"] (defScope (top 20)) := ⟨rfl, rfl, rfl, nd_is_numbered, rfl, by decide +kernel, by decide +kernel⟩
theorem sm_is_numbered (T : Txt P w K mg) : SimSs P w K mg base { N := N_is_numbered, sc := defScope (top 20), k := 2 } (defBody (top 20)) b_is_numbered :=
  (simSs_one (simS_ret (simE_and (simE_cmp (ok_eq rfl) (simE_callB (ok_len) rfl T.n_len rfl (simA_cons (simE_var rfl (.inl rfl)) simA_nil (fun _ => rfl)) (fun _ => rfl) (fun _ => rfl)) simE_int rfl) (simE_one (simE_cal (q := ⟨1, [], [.inl 0], []⟩) rfl (ok_is_number T) (.head _) (by decide) rfl (simC_pos (simA_cons (simE_ix ok_ix (simE_var rfl (.inl rfl)) simE_int (fun _ _ => rfl)) simA_nil (fun _ => rfl)) (aLen_cons aLen_nil) (fun _ => rfl) (fun _ _ => rfl)))))))
theorem ok_is_numbered (T : Txt P w K mg) : Cal P w K mg base 3 ("is_numbered" : Str) [("parts" : Str), ("many" : Str)] m_is_numbered [⟨2, [], [.inl 0, .inl 1], []⟩] := cal0 T.d_is_numbered sc_is_numbered (sm_is_numbered T) (ways_cons ⟨rfl, rfl, fun kV doc pm an cdv ct us ws hu hw => by match us, ws, hu, hw with | [u0, u1], [], _, _ => rfl⟩ ways_nil)
/-! ### is_bend -/
abbrev N_is_bend : List Str := ["parts", "many"]
theorem nd_is_bend : N_is_bend.Nodup := by decide +kernel
noncomputable def b_is_bend : Sx :=
  (sSeq (sIf (tOr' (tVal (eOp (oEq true) (eCall (one' oLen) (aCons (eVar 0) aNil)) (eC (.int 3)))) (tOr' (tNot' (tVal (eCallF m_is_number [.inl 0] [] (aCons (eOp oIx (eVar 0) (eC (.int 0))) aNil)))) (tNot' (tVal (eCallF m_is_number [.inl 0] [] (aCons (eOp oIx (eVar 0) (eC (.int 1))) aNil)))))) (sRet (eC (.bl false))) sNil)
    (sRet (eAnd (eCallF m_is_below [.inl 0, .inl 1] [] (aCons (eOp oIx (eVar 0) (eC (.int 2))) (aCons (eC (.int 256)) aNil))) (eOp oGt (eOp oIx (eVar 0) (eC (.int 2))) (eC (.int 0))))))
noncomputable def m_is_bend : Fx := runB 2 b_is_bend
theorem sc_is_bend : FnScope N_is_bend ["parts", "many"] (defScope (top 21)) := ⟨rfl, rfl, rfl, nd_is_bend, rfl, by decide +kernel, by decide +kernel⟩
theorem sm_is_bend (T : Txt P w K mg) : SimSs P w K mg base { N := N_is_bend, sc := defScope (top 21), k := 2 } (defBody (top 21)) b_is_bend :=
  (simSs_cons (simS_if (simT_W (simW_or (simT_cmp (ok_ne rfl) (simE_callB (ok_len) rfl T.n_len rfl (simA_cons (simE_var rfl (.inl rfl)) simA_nil (fun _ => rfl)) (fun _ => rfl) (fun _ => rfl)) simE_int rfl) (simW_or (simT_not (simT_val (simE_cal (q := ⟨1, [], [.inl 0], []⟩) rfl (ok_is_number T) (.head _) (by decide) rfl (simC_pos (simA_cons (simE_ix ok_ix (simE_var rfl (.inl rfl)) simE_int (fun _ _ => rfl)) simA_nil (fun _ => rfl)) (aLen_cons aLen_nil) (fun _ => rfl) (fun _ _ => rfl))) (fun _ _ => rfl))) (simW_or1 (simT_not (simT_val (simE_cal (q := ⟨1, [], [.inl 0], []⟩) rfl (ok_is_number T) (.head _) (by decide) rfl (simC_pos (simA_cons (simE_ix ok_ix (simE_var rfl (.inl rfl)) simE_int (fun _ _ => rfl)) simA_nil (fun _ => rfl)) (aLen_cons aLen_nil) (fun _ => rfl) (fun _ _ => rfl))) (fun _ _ => rfl))))))) (simSs_one (simS_ret simE_bl)) simSs_nil)
    (simSs_one (simS_ret (simE_and (simE_cal (q := ⟨2, [], [.inl 0, .inl 1], []⟩) rfl (ok_is_below T) (.head _) (by decide) rfl (simC_pos (simA_cons (simE_ix ok_ix (simE_var rfl (.inl rfl)) simE_int (fun _ _ => rfl)) (simA_cons simE_int simA_nil (fun _ => rfl)) (fun _ => rfl)) (aLen_cons (aLen_cons aLen_nil)) (fun _ => rfl) (fun _ _ => rfl))) (simE_one (simE_cmp ok_gtI (simE_ix ok_ix (simE_var rfl (.inl rfl)) simE_int (fun _ _ => rfl)) simE_int rfl))))))
theorem ok_is_bend (T : Txt P w K mg) : Cal P w K mg base 3 ("is_bend" : Str) [("parts" : Str), ("many" : Str)] m_is_bend [⟨2, [], [.inl 0, .inl 1], []⟩] := cal0 T.d_is_bend sc_is_bend (sm_is_bend T) (ways_cons ⟨rfl, rfl, fun kV doc pm an cdv ct us ws hu hw => by match us, ws, hu, hw with | [u0, u1], [], _, _ => rfl⟩ ways_nil)
/-! ### is_forge -/
abbrev N_is_forge : List Str := ["parts", "many"]
theorem nd_is_forge : N_is_forge.Nodup := by decide +kernel
noncomputable def b_is_forge : Sx :=
  (sRet (eAnd (eOp (oEq false) (eCall (one' oLen) (aCons (eVar 0) aNil)) (eC (.int 3))) (eAnd (eCallF m_is_number [.inl 0] [] (aCons (eOp oIx (eVar 0) (eC (.int 0))) aNil)) (eAnd (eCallF m_is_number [.inl 0] [] (aCons (eOp oIx (eVar 0) (eC (.int 1))) aNil)) (eCallF m_is_octets [.inl 0] [] (aCons (eOp oIx (eVar 0) (eC (.int 2))) aNil))))))
noncomputable def m_is_forge : Fx := runB 2 b_is_forge
theorem sc_is_forge : FnScope N_is_forge ["parts", "many"] (defScope (top 22)) := ⟨rfl, rfl, rfl, nd_is_forge, rfl, by decide +kernel, by decide +kernel⟩
theorem sm_is_forge (T : Txt P w K mg) : SimSs P w K mg base { N := N_is_forge, sc := defScope (top 22), k := 4 } (defBody (top 22)) b_is_forge :=
  (simSs_one (simS_ret (simE_and (simE_cmp (ok_eq rfl) (simE_callB (ok_len) rfl T.n_len rfl (simA_cons (simE_var rfl (.inl rfl)) simA_nil (fun _ => rfl)) (fun _ => rfl) (fun _ => rfl)) simE_int rfl) (simE_and (simE_cal (q := ⟨1, [], [.inl 0], []⟩) rfl (ok_is_number T) (.head _) (by decide) rfl (simC_pos (simA_cons (simE_ix ok_ix (simE_var rfl (.inl rfl)) simE_int (fun _ _ => rfl)) simA_nil (fun _ => rfl)) (aLen_cons aLen_nil) (fun _ => rfl) (fun _ _ => rfl))) (simE_and (simE_cal (q := ⟨1, [], [.inl 0], []⟩) rfl (ok_is_number T) (.head _) (by decide) rfl (simC_pos (simA_cons (simE_ix ok_ix (simE_var rfl (.inl rfl)) simE_int (fun _ _ => rfl)) simA_nil (fun _ => rfl)) (aLen_cons aLen_nil) (fun _ => rfl) (fun _ _ => rfl))) (simE_one (simE_cal (q := ⟨1, [], [.inl 0], []⟩) rfl (ok_is_octets T) (.head _) (by decide) rfl (simC_pos (simA_cons (simE_ix ok_ix (simE_var rfl (.inl rfl)) simE_int (fun _ _ => rfl)) simA_nil (fun _ => rfl)) (aLen_cons aLen_nil) (fun _ => rfl) (fun _ _ => rfl)))))))))
theorem ok_is_forge (T : Txt P w K mg) : Cal P w K mg base 5 ("is_forge" : Str) [("parts" : Str), ("many" : Str)] m_is_forge [⟨2, [], [.inl 0, .inl 1], []⟩] := cal0 T.d_is_forge sc_is_forge (sm_is_forge T) (ways_cons ⟨rfl, rfl, fun kV doc pm an cdv ct us ws hu hw => by match us, ws, hu, hw with | [u0, u1], [], _, _ => rfl⟩ ways_nil)
/-! ### is_again -/
abbrev N_is_again : List Str := ["parts", "many", "part"]
theorem nd_is_again : N_is_again.Nodup := by decide +kernel
noncomputable def b_is_again : Sx :=
  (sRet (eAnd (eOp (oEq false) (eCall (one' oLen) (aCons (eVar 0) aNil)) (eC (.int 3))) (eCall (one' oAll) (aCons (eLc (iSeq (eVar 0)) (gNm 2) tYes' (eCallF m_is_number [.inl 0] [] (aCons (eVar 2) aNil)) [2]) aNil))))
noncomputable def m_is_again : Fx := runB 3 b_is_again
theorem sc_is_again : FnScope N_is_again ["parts", "many"] (defScope (top 23)) := ⟨rfl, rfl, rfl, nd_is_again, rfl, by decide +kernel, by decide +kernel⟩
theorem sm_is_again (T : Txt P w K mg) : SimSs P w K mg base { N := N_is_again, sc := defScope (top 23), k := 2 } (defBody (top 23)) b_is_again :=
  (simSs_one (simS_ret (simE_and (simE_cmp (ok_eq rfl) (simE_callB (ok_len) rfl T.n_len rfl (simA_cons (simE_var rfl (.inl rfl)) simA_nil (fun _ => rfl)) (fun _ => rfl) (fun _ => rfl)) simE_int rfl) (simE_one (simE_callB (ok_all rfl) rfl T.n_all rfl (simA_cons (simE_lc rfl nd_is_again (simI_seq (simE_var rfl (.inl rfl))) (own := [(("part" : Str), 2)]) ⟨rfl, by decide +kernel, by decide +kernel, by decide +kernel, by decide +kernel⟩ (simG_name nd_is_again rfl (by first | exact .inl rfl | exact .inr rfl) (by first | exact .inl rfl | exact .inr rfl)) simP_nil (simE_cal (q := ⟨1, [], [.inl 0], []⟩) rfl (ok_is_number T) (.head _) (by decide) rfl (simC_pos (simA_cons (simE_var rfl (by first | exact .inl rfl | exact .inr (.inl rfl) | exact .inr (.inr rfl))) simA_nil (fun _ => rfl)) (aLen_cons aLen_nil) (fun _ => rfl) (fun _ _ => rfl))) (fun _ _ => rfl)) simA_nil (fun _ => rfl)) (fun _ => rfl) (fun _ => rfl))))))
theorem ok_is_again (T : Txt P w K mg) : Cal P w K mg base 3 ("is_again" : Str) [("parts" : Str), ("many" : Str)] m_is_again [⟨2, [], [.inl 0, .inl 1], []⟩] := cal0 T.d_is_again sc_is_again (sm_is_again T) (ways_cons ⟨rfl, rfl, fun kV doc pm an cdv ct us ws hu hw => by match us, ws, hu, hw with | [u0, u1], [], _, _ => rfl⟩ ways_nil)
/-! ### is_move -/
abbrev N_is_move : List Str := ["parts", "many"]
theorem nd_is_move : N_is_move.Nodup := by decide +kernel
noncomputable def b_is_move : Sx :=
  (sRet (eAnd (eOp (oEq false) (eCall (one' oLen) (aCons (eVar 0) aNil)) (eC (.int 2))) (eAnd (eCallF m_is_below [.inl 0, .inl 1] [] (aCons (eOp oIx (eVar 0) (eC (.int 0))) (aCons (eVar 1) aNil))) (eCallF m_is_number [.inl 0] [] (aCons (eOp oIx (eVar 0) (eC (.int 1))) aNil)))))
noncomputable def m_is_move : Fx := runB 2 b_is_move
theorem sc_is_move : FnScope N_is_move ["parts", "many"] (defScope (top 24)) := ⟨rfl, rfl, rfl, nd_is_move, rfl, by decide +kernel, by decide +kernel⟩
theorem sm_is_move (T : Txt P w K mg) : SimSs P w K mg base { N := N_is_move, sc := defScope (top 24), k := 2 } (defBody (top 24)) b_is_move :=
  (simSs_one (simS_ret (simE_and (simE_cmp (ok_eq rfl) (simE_callB (ok_len) rfl T.n_len rfl (simA_cons (simE_var rfl (.inl rfl)) simA_nil (fun _ => rfl)) (fun _ => rfl) (fun _ => rfl)) simE_int rfl) (simE_and (simE_cal (q := ⟨2, [], [.inl 0, .inl 1], []⟩) rfl (ok_is_below T) (.head _) (by decide) rfl (simC_pos (simA_cons (simE_ix ok_ix (simE_var rfl (.inl rfl)) simE_int (fun _ _ => rfl)) (simA_cons (simE_var rfl (.inl rfl)) simA_nil (fun _ => rfl)) (fun _ => rfl)) (aLen_cons (aLen_cons aLen_nil)) (fun _ => rfl) (fun _ _ => rfl))) (simE_one (simE_cal (q := ⟨1, [], [.inl 0], []⟩) rfl (ok_is_number T) (.head _) (by decide) rfl (simC_pos (simA_cons (simE_ix ok_ix (simE_var rfl (.inl rfl)) simE_int (fun _ _ => rfl)) simA_nil (fun _ => rfl)) (aLen_cons aLen_nil) (fun _ => rfl) (fun _ _ => rfl))))))))
theorem ok_is_move (T : Txt P w K mg) : Cal P w K mg base 3 ("is_move" : Str) [("parts" : Str), ("many" : Str)] m_is_move [⟨2, [], [.inl 0, .inl 1], []⟩] := cal0 T.d_is_move sc_is_move (sm_is_move T) (ways_cons ⟨rfl, rfl, fun kV doc pm an cdv ct us ws hu hw => by match us, ws, hu, hw with | [u0, u1], [], _, _ => rfl⟩ ways_nil)
/-! ### is_event -/
abbrev N_is_event : List Str := ["value", "many", "look"]
theorem nd_is_event : N_is_event.Nodup := by decide +kernel
noncomputable def b_is_event : Sx :=
  (sSeq (sIf (tOr' (tNot' (tVal (eCall (two' oIsi) (aCons (eVar 0) (aCons (eC (.ty "tuple")) aNil))))) (tOr' (tVal (eOp (oEq false) (eCall (one' oLen) (aCons (eVar 0) aNil)) (eC (.int 0)))) (tOr' (tNot' (tVal (eCallF m_is_text [.inl 0] [] (aCons (eOp oIx (eVar 0) (eC (.int 0))) aNil)))) (tVal (eOp (oGIn T_dic true) (eOp oIx (eVar 0) (eC (.int 0))) (eC (.cl ("LOOKS" : Str)))))))) (sRet (eC (.bl false))) sNil)
    (sSeq (sAsg (eOp (oGIx T_dic) (eC (.cl ("LOOKS" : Str))) (eOp oIx (eVar 0) (eC (.int 0)))) (gNm 2))
    (sRet (eCallV [(("is_put" : Str), m_is_put), (("is_numbered" : Str), m_is_numbered), (("is_bend" : Str), m_is_bend), (("is_forge" : Str), m_is_forge), (("is_again" : Str), m_is_again), (("is_move" : Str), m_is_move)] 2 (aCons (eSl (eVar 0) (oPart (eC (.int 1))) oNoP) (aCons (eVar 1) aNil))))))
noncomputable def m_is_event : Fx := runB 3 b_is_event
theorem sc_is_event : FnScope N_is_event ["value", "many"] (defScope (top 26)) := ⟨rfl, rfl, rfl, nd_is_event, rfl, by decide +kernel, by decide +kernel⟩
theorem sm_is_event (T : Txt P w K mg) : SimSs P w K mg base { N := N_is_event, sc := defScope (top 26), k := 7 } (defBody (top 26)) b_is_event :=
  (simSs_cons (simS_if (simT_W (simW_or (simT_not (simT_val (simE_callB (ok_isi) rfl T.n_isinstance rfl (simA_cons (simE_var rfl (.inl rfl)) (simA_cons (simE_ty rfl T.n_tuple rfl) simA_nil (fun _ => rfl)) (fun _ => rfl)) (fun _ => rfl) (fun _ => rfl)) (fun _ _ => rfl))) (simW_or (simT_cmp (ok_eq rfl) (simE_callB (ok_len) rfl T.n_len rfl (simA_cons (simE_var rfl (.inl rfl)) simA_nil (fun _ => rfl)) (fun _ => rfl) (fun _ => rfl)) simE_int rfl) (simW_or (simT_not (simT_val (simE_cal (q := ⟨1, [], [.inl 0], []⟩) rfl (ok_is_text T) (.head _) (by decide) rfl (simC_pos (simA_cons (simE_ix ok_ix (simE_var rfl (.inl rfl)) simE_int (fun _ _ => rfl)) simA_nil (fun _ => rfl)) (aLen_cons aLen_nil) (fun _ => rfl) (fun _ _ => rfl))) (fun _ _ => rfl))) (simW_or1 (simT_cmp (ok_gnotin T.dic) (simE_ix ok_ix (simE_var rfl (.inl rfl)) simE_int (fun _ _ => rfl)) (simE_gdic (T.dic ("LOOKS" : Str) _ rfl) rfl) rfl)))))) (simSs_one (simS_ret simE_bl)) simSs_nil)
    (simSs_cons (simS_set nd_is_event rfl (.inl rfl) (.inl rfl) (simE_ix (ok_gix T.dic) (simE_gdic (T.dic ("LOOKS" : Str) _ rfl) rfl) (simE_ix ok_ix (simE_var rfl (.inl rfl)) simE_int (fun _ _ => rfl)) (fun _ _ => rfl)) (fun _ => rfl))
    (simSs_one (simS_ret (simE_callV (T := [(("is_put" : Str), m_is_put), (("is_numbered" : Str), m_is_numbered), (("is_bend" : Str), m_is_bend), (("is_forge" : Str), m_is_forge), (("is_again" : Str), m_is_again), (("is_move" : Str), m_is_move)]) rfl (by refine hT_of ?_; exact (all_cons ⟨_, _, _, _, by decide, ok_is_put T, .head _, rfl, rfl, rfl, rfl⟩ (all_cons ⟨_, _, _, _, by decide, ok_is_numbered T, .head _, rfl, rfl, rfl, rfl⟩ (all_cons ⟨_, _, _, _, by decide, ok_is_bend T, .head _, rfl, rfl, rfl, rfl⟩ (all_cons ⟨_, _, _, _, by decide, ok_is_forge T, .head _, rfl, rfl, rfl, rfl⟩ (all_cons ⟨_, _, _, _, by decide, ok_is_again T, .head _, rfl, rfl, rfl, rfl⟩ (all_cons ⟨_, _, _, _, by decide, ok_is_move T, .head _, rfl, rfl, rfl, rfl⟩ all_nil))))))) rfl (.inl rfl) (simC_pos (simA_cons (simE_sl (simE_var rfl (.inl rfl)) (simO_some simE_int) simO_none) (simA_cons (simE_var rfl (.inl rfl)) simA_nil (fun _ => rfl)) (fun _ => rfl)) (aLen_cons (aLen_cons aLen_nil)) (fun _ => rfl) (fun _ _ => rfl)) (aLen_cons (aLen_cons aLen_nil)))))))
theorem ok_is_event (T : Txt P w K mg) : Cal P w K mg base 8 ("is_event" : Str) [("value" : Str), ("many" : Str)] m_is_event [⟨2, [], [.inl 0, .inl 1], []⟩] := cal0 T.d_is_event sc_is_event (sm_is_event T) (ways_cons ⟨rfl, rfl, fun kV doc pm an cdv ct us ws hu hw => by match us, ws, hu, hw with | [u0, u1], [], _, _ => rfl⟩ ways_nil)
/-! ### need_script -/
abbrev N_need_script : List Str := ["value", "many", "at", "event"]
theorem nd_need_script : N_need_script.Nodup := by decide +kernel
noncomputable def b_need_script : Sx :=
  (sSeq (sIf (tNot' (tVal (eCall (two' oIsi) (aCons (eVar 0) (aCons (eC (.ty "tuple")) aNil))))) (sRaise ("InvalidScript" : Str) ("at" : Str) (eUn oNeg (eC (.int 1)))) sNil)
    (sFor (iEnum' (eVar 0)) (gTup' 2 (gCons' (gNm 2) (gCons' (gNm 3) gNil')))
    (sIf (tNot' (tVal (eCallF m_is_event [.inl 0, .inl 1] [] (aCons (eVar 3) (aCons (eVar 1) aNil))))) (sRaise ("InvalidScript" : Str) ("at" : Str) (eVar 2)) sNil)))
noncomputable def m_need_script : Fx := runB 4 b_need_script
theorem sc_need_script : FnScope N_need_script ["value", "many"] (defScope (top 27)) := ⟨rfl, rfl, rfl, nd_need_script, rfl, by decide +kernel, by decide +kernel⟩
theorem sm_need_script (T : Txt P w K mg) : SimSs P w K mg base { N := N_need_script, sc := defScope (top 27), k := 8 } (defBody (top 27)) b_need_script :=
  (simSs_cons (simS_if (simT_not (simT_val (simE_callB (ok_isi) rfl T.n_isinstance rfl (simA_cons (simE_var rfl (.inl rfl)) (simA_cons (simE_ty rfl T.n_tuple rfl) simA_nil (fun _ => rfl)) (fun _ => rfl)) (fun _ => rfl) (fun _ => rfl)) (fun _ _ => rfl))) (simSs_one (simS_raiseX rfl T.x_InvalidScript rfl (simE_neg simE_int) (fun _ => rfl))) simSs_nil)
    (simSs_one (simS_for rfl (simI_enum rfl T.n_enumerate (simE_var rfl (.inl rfl)) (fun _ => rfl)) (simG_tup rfl (simGs_cons (simG_name nd_need_script rfl (.inl rfl) (.inl rfl)) (simGs_cons (simG_name nd_need_script rfl (.inl rfl) (.inl rfl)) simGs_nil (fun _ => rfl)) (fun _ => rfl)) (fun _ => rfl) (fun _ => rfl))
    (simSs_one (simS_if (simT_not (simT_val (simE_cal (q := ⟨2, [], [.inl 0, .inl 1], []⟩) rfl (ok_is_event T) (.head _) (by decide) rfl (simC_pos (simA_cons (simE_var rfl (.inl rfl)) (simA_cons (simE_var rfl (.inl rfl)) simA_nil (fun _ => rfl)) (fun _ => rfl)) (aLen_cons (aLen_cons aLen_nil)) (fun _ => rfl) (fun _ _ => rfl))) (fun _ _ => rfl))) (simSs_one (simS_raiseX rfl T.x_InvalidScript rfl (simE_var rfl (.inl rfl)) (fun _ => rfl))) simSs_nil)) (fun _ _ => rfl))))
theorem ok_need_script (T : Txt P w K mg) : Cal P w K mg base 9 ("need_script" : Str) [("value" : Str), ("many" : Str)] m_need_script [⟨2, [], [.inl 0, .inl 1], []⟩, ⟨0, [("many" : Str), ("value" : Str)], [.inl 1, .inl 0], []⟩] := cal0 T.d_need_script sc_need_script (sm_need_script T) (ways_cons ⟨rfl, rfl, fun kV doc pm an cdv ct us ws hu hw => by match us, ws, hu, hw with | [u0, u1], [], _, _ => rfl⟩ (ways_cons ⟨rfl, rfl, fun kV doc pm an cdv ct us ws hu hw => by match us, ws, hu, hw with | [], [w0, w1], _, _ => rfl⟩ ways_nil))
/-! ### script_of -/
abbrev N_script_of : List Str := ["arrivals", "made", "forged", "origin", "target", "datagram", "at"]
theorem nd_script_of : N_script_of.Nodup := by decide +kernel
noncomputable def b_script_of : Sx :=
  (sSeq (sAsg (eLc (iSeq (eVar 0)) (gTup' 3 (gCons' (gNm 3) (gCons' (gNm 4) (gCons' (gNm 5) gNil')))) tYes' (eTup (aCons (eC (.str ("forge" : Str))) (aCons (eVar 3) (aCons (eVar 4) (aCons (eVar 5) aNil))))) [3, 4, 5]) (gNm 2))
    (sRet (eCall (one' oTuple) (aCons (eOp oAdd (eVar 2) (eLc (iRange1 (eCall (one' oLen) (aCons (eVar 2) aNil))) (gNm 6) tYes' (eTup (aCons (eC (.str ("bring" : Str))) (aCons (eOp oAdd (eVar 1) (eVar 6)) aNil))) [6])) aNil))))
noncomputable def m_script_of : Fx := runB 7 b_script_of
theorem sc_script_of : FnScope N_script_of ["arrivals", "made"] (defScope (top 28)) := ⟨rfl, rfl, rfl, nd_script_of, rfl, by decide +kernel, by decide +kernel⟩
theorem sm_script_of (T : Txt P w K mg) : SimSs P w K mg base { N := N_script_of, sc := defScope (top 28), k := 0 } (defBody (top 28)) b_script_of :=
  (simSs_cons (simS_setLc rfl nd_script_of rfl rfl rfl rfl (by decide +kernel) (simI_seq (simE_var rfl (.inl rfl))) (own := [(("origin" : Str), 3), (("target" : Str), 4), (("datagram" : Str), 5)]) ⟨rfl, by decide +kernel, by decide +kernel, by decide +kernel, by decide +kernel⟩ (simG_tup rfl (simGs_cons (simG_name nd_script_of rfl (by first | exact .inl rfl | exact .inr rfl) (by first | exact .inl rfl | exact .inr rfl)) (simGs_cons (simG_name nd_script_of rfl (by first | exact .inl rfl | exact .inr rfl) (by first | exact .inl rfl | exact .inr rfl)) (simGs_cons (simG_name nd_script_of rfl (by first | exact .inl rfl | exact .inr rfl) (by first | exact .inl rfl | exact .inr rfl)) simGs_nil (fun _ => rfl)) (fun _ => rfl)) (fun _ => rfl)) (fun _ => rfl) (fun _ => rfl)) simP_nil (simE_tup (simA_cons simE_str (simA_cons (simE_var rfl (by first | exact .inl rfl | exact .inr (.inl rfl) | exact .inr (.inr rfl))) (simA_cons (simE_var rfl (by first | exact .inl rfl | exact .inr (.inl rfl) | exact .inr (.inr rfl))) (simA_cons (simE_var rfl (by first | exact .inl rfl | exact .inr (.inl rfl) | exact .inr (.inr rfl))) simA_nil (fun _ => rfl)) (fun _ => rfl)) (fun _ => rfl)) (fun _ => rfl))) (fun _ _ => rfl))
    (simSs_one (simS_ret (simE_callTy (ok_tuple) rfl T.n_tuple rfl (simA_cons (simE_op ok_add (simE_var rfl (.inl rfl)) (simE_lc rfl nd_script_of (simI_range1 rfl T.n_range (simE_callB (ok_len) rfl T.n_len rfl (simA_cons (simE_var rfl (.inl rfl)) simA_nil (fun _ => rfl)) (fun _ => rfl) (fun _ => rfl)) (fun _ => rfl)) (own := [(("at" : Str), 6)]) ⟨rfl, by decide +kernel, by decide +kernel, by decide +kernel, by decide +kernel⟩ (simG_name nd_script_of rfl (by first | exact .inl rfl | exact .inr rfl) (by first | exact .inl rfl | exact .inr rfl)) simP_nil (simE_tup (simA_cons simE_str (simA_cons (simE_op ok_add (simE_var rfl (by first | exact .inl rfl | exact .inr (.inl rfl) | exact .inr (.inr rfl))) (simE_var rfl (by first | exact .inl rfl | exact .inr (.inl rfl) | exact .inr (.inr rfl)))) simA_nil (fun _ => rfl)) (fun _ => rfl))) (fun _ _ => rfl))) simA_nil (fun _ => rfl)) (fun _ => rfl) (fun _ => rfl)))))
theorem ok_script_of (T : Txt P w K mg) : Cal P w K mg base 1 ("script_of" : Str) [("arrivals" : Str), ("made" : Str)] m_script_of [⟨2, [], [.inl 0, .inl 1], []⟩, ⟨0, [("made" : Str), ("arrivals" : Str)], [.inl 1, .inl 0], []⟩] := cal0 T.d_script_of sc_script_of (sm_script_of T) (ways_cons ⟨rfl, rfl, fun kV doc pm an cdv ct us ws hu hw => by match us, ws, hu, hw with | [u0, u1], [], _, _ => rfl⟩ (ways_cons ⟨rfl, rfl, fun kV doc pm an cdv ct us ws hu hw => by match us, ws, hu, hw with | [], [w0, w1], _, _ => rfl⟩ ways_nil))
/-! ### _law_heap -/
abbrev N__law_heap : List Str := ["script", "base", "cell", "cells", "stir"]
theorem nd__law_heap : N__law_heap.Nodup := by decide +kernel
noncomputable def b__law_heap : Sx :=
  (sSeq (sAsg (eLc (iSeq (eSl (eVar 0) oNoP (oPart (eC (.int 63))))) (gNm 2) tYes' (eCall (one' oAbs) (aCons (eCall (one' oInt1) (aCons (eVar 2) aNil)) aNil)) [2]) (gNm 3))
    (sSeq (sAsg (eOp oAdd (eC (.int 52387)) (eOp oMul (eC (.int 811)) (eVar 1))) (gNm 4))
    (sSeq (sFor (iSeq (eVar 3)) (gNm 2)
    (sAsg (eOp oMod (eCall (one' oInt1) (aCons (eOp oAdd (eOp oAdd (eOp oMul (eVar 4) (eC (.int 48271))) (eOp oMod (eVar 2) (eC (.int 2147483549)))) (eC (.int 29))) aNil)) (eC (.int 2147483647))) (gNm 4)))
    (sRet (eLst (aCons (eRev (eLc (iSeq (eVar 3)) (gNm 2) (tVal (eOp oGe (eVar 2) (eOp oPow (eC (.int 10)) (eC (.int 18))))) (eVar 2) [2])) (aCons (eVar 4) aNil)))))))
noncomputable def m__law_heap : Fx := runB 5 b__law_heap
theorem sc__law_heap : FnScope N__law_heap ["script", "base"] (defScope (top 30)) := ⟨rfl, rfl, rfl, nd__law_heap, rfl, by decide +kernel, by decide +kernel⟩
theorem sm__law_heap (T : Txt P w K mg) : SimSs P w K mg base { N := N__law_heap, sc := defScope (top 30), k := 0 } (defBody (top 30)) b__law_heap :=
  (simSs_cons (simS_setLc rfl nd__law_heap rfl rfl rfl rfl (by decide +kernel) (simI_seq (simE_sl (simE_var rfl (.inl rfl)) simO_none (simO_some simE_int))) (own := [(("cell" : Str), 2)]) ⟨rfl, by decide +kernel, by decide +kernel, by decide +kernel, by decide +kernel⟩ (simG_name nd__law_heap rfl (by first | exact .inl rfl | exact .inr rfl) (by first | exact .inl rfl | exact .inr rfl)) simP_nil (simE_callB (ok_abs) rfl T.n_abs rfl (simA_cons (simE_callTy (ok_int1) rfl T.n_int rfl (simA_cons (simE_var rfl (by first | exact .inl rfl | exact .inr (.inl rfl) | exact .inr (.inr rfl))) simA_nil (fun _ => rfl)) (fun _ => rfl) (fun _ => rfl)) simA_nil (fun _ => rfl)) (fun _ => rfl) (fun _ => rfl)) (fun _ _ => rfl))
    (simSs_cons (simS_set nd__law_heap rfl (.inl rfl) (.inl rfl) (simE_op ok_add simE_int (simE_op ok_mul simE_int (simE_var rfl (.inl rfl)))) (fun _ => rfl))
    (simSs_cons (simS_for rfl (simI_seq (simE_var rfl (.inl rfl))) (simG_name nd__law_heap rfl (.inl rfl) (.inl rfl))
    (simSs_one (simS_set nd__law_heap rfl (.inl rfl) (.inl rfl) (simE_op ok_mod (simE_callTy (ok_int1) rfl T.n_int rfl (simA_cons (simE_op ok_add (simE_op ok_add (simE_op ok_mul (simE_var rfl (.inl rfl)) simE_int) (simE_op ok_mod (simE_var rfl (.inl rfl)) simE_int)) simE_int) simA_nil (fun _ => rfl)) (fun _ => rfl) (fun _ => rfl)) simE_int) (fun _ => rfl))) (fun _ _ => rfl))
    (simSs_one (simS_ret (simE_lst (simA_cons (simE_rev (simE_lc rfl nd__law_heap (simI_seq (simE_var rfl (.inl rfl))) (own := [(("cell" : Str), 2)]) ⟨rfl, by decide +kernel, by decide +kernel, by decide +kernel, by decide +kernel⟩ (simG_name nd__law_heap rfl (by first | exact .inl rfl | exact .inr rfl) (by first | exact .inl rfl | exact .inr rfl)) (simP_one (simT_cmp ok_geI (simE_var rfl (by first | exact .inl rfl | exact .inr (.inl rfl) | exact .inr (.inr rfl))) (simE_op ok_pow simE_int simE_int) rfl)) (simE_var rfl (by first | exact .inl rfl | exact .inr (.inl rfl) | exact .inr (.inr rfl))) (fun _ _ => rfl))) (simA_cons (simE_var rfl (.inl rfl)) simA_nil (fun _ => rfl)) (fun _ => rfl))))))))
theorem ok__law_heap (T : Txt P w K mg) : Cal P w K mg base 1 ("_law_heap" : Str) [("script" : Str), ("base" : Str)] m__law_heap [⟨2, [], [.inl 0, .inl 1], []⟩] := cal0 T.d__law_heap sc__law_heap (sm__law_heap T) (ways_cons ⟨rfl, rfl, fun kV doc pm an cdv ct us ws hu hw => by match us, ws, hu, hw with | [u0, u1], [], _, _ => rfl⟩ ways_nil)
/-! ### _law_draw -/
abbrev N__law_draw : List Str := ["heap", "many", "rest"]
theorem nd__law_draw : N__law_draw.Nodup := by decide +kernel
noncomputable def b__law_draw : Sx :=
  (sSeq (sWhile (tAnd' (tVal (eOp (oEq true) (eOp oIx (eVar 0) (eC (.int 0))) (eLst aNil))) (tVal (eOp (oEq false) (eOp oIx (eOp oIx (eVar 0) (eC (.int 0))) (eUn oNeg (eC (.int 1)))) (eC (.int 0))))) (sDrop (eLm mPop (eOp oIx (eVar 0) (eC (.int 0))) aNil)))
    (sSeq (sIf (tVal (eOp (oEq true) (eOp oIx (eVar 0) (eC (.int 0))) (eLst aNil))) (sSeq (sAsg (eCall (one' oInt1) (aCons (eLm mPop (eOp oIx (eVar 0) (eC (.int 0))) aNil) aNil)) (gNm 2))
    (sSeq (sDrop (eLm mAppend (eOp oIx (eVar 0) (eC (.int 0))) (aCons (eOp oFdiv (eVar 2) (eVar 1)) aNil)))
    (sRet (eOp oMod (eVar 2) (eVar 1))))) sNil)
    (sSeq (sSub kSetL (eVar 0) (eC (.int 1)) (eOp oMod (eCall (one' oInt1) (aCons (eOp oAdd (eOp oMul (eOp oIx (eVar 0) (eC (.int 1))) (eC (.int 48271))) (eC (.int 13))) aNil)) (eC (.int 2147483647))))
    (sRet (eOp oMod (eCall (one' oInt1) (aCons (eOp oFdiv (eOp oIx (eVar 0) (eC (.int 1))) (eC (.int 64))) aNil)) (eVar 1))))))
noncomputable def m__law_draw : Fx := runB 3 b__law_draw
theorem sc__law_draw : FnScope N__law_draw ["heap", "many"] (defScope (top 31)) := ⟨rfl, rfl, rfl, nd__law_draw, rfl, by decide +kernel, by decide +kernel⟩
theorem sm__law_draw (T : Txt P w K mg) : SimSs P w K mg base { N := N__law_draw, sc := defScope (top 31), k := 0 } (defBody (top 31)) b__law_draw :=
  (simSs_cons (simS_while (simT_W (simW_and (simT_cmp (ok_ne rfl) (simE_ix ok_ix (simE_var rfl (.inl rfl)) simE_int (fun _ _ => rfl)) (simE_lst simA_nil) rfl) (simW_and1 (simT_cmp (ok_eq rfl) (simE_ix ok_ix (simE_ix ok_ix (simE_var rfl (.inl rfl)) simE_int (fun _ _ => rfl)) (simE_neg simE_int) (fun _ _ => rfl)) simE_int rfl)))) (simSs_one (simS_expr (simE_lm0 ok_pop PySem.F.slot_list_pop PySem.F.type_list_pop (simE_ix ok_ix (simE_var rfl (.inl rfl)) simE_int (fun _ _ => rfl)) (fun _ => rfl) rfl) (fun _ => rfl))))
    (simSs_cons (simS_if (simT_cmp (ok_ne rfl) (simE_ix ok_ix (simE_var rfl (.inl rfl)) simE_int (fun _ _ => rfl)) (simE_lst simA_nil) rfl) (simSs_cons (simS_set nd__law_draw rfl (.inl rfl) (.inl rfl) (simE_callTy (ok_int1) rfl T.n_int rfl (simA_cons (simE_lm0 ok_pop PySem.F.slot_list_pop PySem.F.type_list_pop (simE_ix ok_ix (simE_var rfl (.inl rfl)) simE_int (fun _ _ => rfl)) (fun _ => rfl) rfl) simA_nil (fun _ => rfl)) (fun _ => rfl) (fun _ => rfl)) (fun _ => rfl))
    (simSs_cons (simS_expr (simE_lm ok_append PySem.F.slot_list_append PySem.F.type_list_append (simE_ix ok_ix (simE_var rfl (.inl rfl)) simE_int (fun _ _ => rfl)) (simA_cons (simE_op ok_fdiv (simE_var rfl (.inl rfl)) (simE_var rfl (.inl rfl))) simA_nil (fun _ => rfl)) (fun _ => rfl) (fun _ => rfl) rfl (fun _ => rfl) (fun _ => rfl)) (fun _ => rfl))
    (simSs_one (simS_ret (simE_op ok_mod (simE_var rfl (.inl rfl)) (simE_var rfl (.inl rfl))))))) simSs_nil)
    (simSs_cons (simS_sub ok_setL (simE_op ok_mod (simE_callTy (ok_int1) rfl T.n_int rfl (simA_cons (simE_op ok_add (simE_op ok_mul (simE_ix ok_ix (simE_var rfl (.inl rfl)) simE_int (fun _ _ => rfl)) simE_int) simE_int) simA_nil (fun _ => rfl)) (fun _ => rfl) (fun _ => rfl)) simE_int) (simE_var rfl (.inl rfl)) simE_int (fun _ => rfl) (fun _ _ => rfl) (fun _ => rfl) (fun _ _ => rfl))
    (simSs_one (simS_ret (simE_op ok_mod (simE_callTy (ok_int1) rfl T.n_int rfl (simA_cons (simE_op ok_fdiv (simE_ix ok_ix (simE_var rfl (.inl rfl)) simE_int (fun _ _ => rfl)) simE_int) simA_nil (fun _ => rfl)) (fun _ => rfl) (fun _ => rfl)) (simE_var rfl (.inl rfl))))))))
theorem ok__law_draw (T : Txt P w K mg) : Cal P w K mg base 1 ("_law_draw" : Str) [("heap" : Str), ("many" : Str)] m__law_draw [⟨2, [], [.inl 0, .inl 1], []⟩] := cal0 T.d__law_draw sc__law_draw (sm__law_draw T) (ways_cons ⟨rfl, rfl, fun kV doc pm an cdv ct us ws hu hw => by match us, ws, hu, hw with | [u0, u1], [], _, _ => rfl⟩ ways_nil)
/-! ### _law_pick -/
abbrev N__law_pick : List Str := ["heap", "some"]
theorem nd__law_pick : N__law_pick.Nodup := by decide +kernel
noncomputable def b__law_pick : Sx :=
  (sRet (eOp oIx (eVar 1) (eCallF m__law_draw [.inl 0, .inl 1] [] (aCons (eVar 0) (aCons (eCall (one' oLen) (aCons (eVar 1) aNil)) aNil)))))
noncomputable def m__law_pick : Fx := runB 2 b__law_pick
theorem sc__law_pick : FnScope N__law_pick ["heap", "some"] (defScope (top 32)) := ⟨rfl, rfl, rfl, nd__law_pick, rfl, by decide +kernel, by decide +kernel⟩
theorem sm__law_pick (T : Txt P w K mg) : SimSs P w K mg base { N := N__law_pick, sc := defScope (top 32), k := 1 } (defBody (top 32)) b__law_pick :=
  (simSs_one (simS_ret (simE_ix ok_ix (simE_var rfl (.inl rfl)) (simE_cal (q := ⟨2, [], [.inl 0, .inl 1], []⟩) rfl (ok__law_draw T) (.head _) (by decide) rfl (simC_pos (simA_cons (simE_var rfl (.inl rfl)) (simA_cons (simE_callB (ok_len) rfl T.n_len rfl (simA_cons (simE_var rfl (.inl rfl)) simA_nil (fun _ => rfl)) (fun _ => rfl) (fun _ => rfl)) simA_nil (fun _ => rfl)) (fun _ => rfl)) (aLen_cons (aLen_cons aLen_nil)) (fun _ => rfl) (fun _ _ => rfl))) (fun _ _ => rfl))))
theorem ok__law_pick (T : Txt P w K mg) : Cal P w K mg base 2 ("_law_pick" : Str) [("heap" : Str), ("some" : Str)] m__law_pick [⟨2, [], [.inl 0, .inl 1], []⟩] := cal0 T.d__law_pick sc__law_pick (sm__law_pick T) (ways_cons ⟨rfl, rfl, fun kV doc pm an cdv ct us ws hu hw => by match us, ws, hu, hw with | [u0, u1], [], _, _ => rfl⟩ ways_nil)
/-! ### _law_octets -/
abbrev N__law_octets : List Str := ["heap", "many", "turn"]
theorem nd__law_octets : N__law_octets.Nodup := by decide +kernel
noncomputable def b__law_octets : Sx :=
  (sRet (eCall (one' oTuple) (aCons (eLc (iRange1 (eVar 1)) (gNm 2) tYes' (eCallF m__law_pick [.inl 0, .inl 1] [] (aCons (eVar 0) (aCons (eLst (aCons (eC (.int 0)) (aCons (eC (.int 255)) (aCons (eC (.int 1)) (aCons (eC (.int 128)) (aCons (eCallF m__law_draw [.inl 0, .inl 1] [] (aCons (eVar 0) (aCons (eC (.int 256)) aNil))) (aCons (eCallF m__law_draw [.inl 0, .inl 1] [] (aCons (eVar 0) (aCons (eC (.int 256)) aNil))) aNil))))))) aNil))) [2]) aNil)))
noncomputable def m__law_octets : Fx := runB 3 b__law_octets
theorem sc__law_octets : FnScope N__law_octets ["heap", "many"] (defScope (top 33)) := ⟨rfl, rfl, rfl, nd__law_octets, rfl, by decide +kernel, by decide +kernel⟩
theorem sm__law_octets (T : Txt P w K mg) : SimSs P w K mg base { N := N__law_octets, sc := defScope (top 33), k := 2 } (defBody (top 33)) b__law_octets :=
  (simSs_one (simS_ret (simE_callTy (ok_tuple) rfl T.n_tuple rfl (simA_cons (simE_lc rfl nd__law_octets (simI_range1 rfl T.n_range (simE_var rfl (.inl rfl)) (fun _ => rfl)) (own := [(("turn" : Str), 2)]) ⟨rfl, by decide +kernel, by decide +kernel, by decide +kernel, by decide +kernel⟩ (simG_name nd__law_octets rfl (by first | exact .inl rfl | exact .inr rfl) (by first | exact .inl rfl | exact .inr rfl)) simP_nil (simE_cal (q := ⟨2, [], [.inl 0, .inl 1], []⟩) rfl (ok__law_pick T) (.head _) (by decide) rfl (simC_pos (simA_cons (simE_var rfl (by first | exact .inl rfl | exact .inr (.inl rfl) | exact .inr (.inr rfl))) (simA_cons (simE_lst (simA_cons simE_int (simA_cons simE_int (simA_cons simE_int (simA_cons simE_int (simA_cons (simE_cal (q := ⟨2, [], [.inl 0, .inl 1], []⟩) rfl (ok__law_draw T) (.head _) (by decide) rfl (simC_pos (simA_cons (simE_var rfl (by first | exact .inl rfl | exact .inr (.inl rfl) | exact .inr (.inr rfl))) (simA_cons simE_int simA_nil (fun _ => rfl)) (fun _ => rfl)) (aLen_cons (aLen_cons aLen_nil)) (fun _ => rfl) (fun _ _ => rfl))) (simA_cons (simE_cal (q := ⟨2, [], [.inl 0, .inl 1], []⟩) rfl (ok__law_draw T) (.head _) (by decide) rfl (simC_pos (simA_cons (simE_var rfl (by first | exact .inl rfl | exact .inr (.inl rfl) | exact .inr (.inr rfl))) (simA_cons simE_int simA_nil (fun _ => rfl)) (fun _ => rfl)) (aLen_cons (aLen_cons aLen_nil)) (fun _ => rfl) (fun _ _ => rfl))) simA_nil (fun _ => rfl)) (fun _ => rfl)) (fun _ => rfl)) (fun _ => rfl)) (fun _ => rfl)) (fun _ => rfl))) simA_nil (fun _ => rfl)) (fun _ => rfl)) (aLen_cons (aLen_cons aLen_nil)) (fun _ => rfl) (fun _ _ => rfl))) (fun _ _ => rfl)) simA_nil (fun _ => rfl)) (fun _ => rfl) (fun _ => rfl))))
theorem ok__law_octets (T : Txt P w K mg) : Cal P w K mg base 3 ("_law_octets" : Str) [("heap" : Str), ("many" : Str)] m__law_octets [⟨2, [], [.inl 0, .inl 1], []⟩] := cal0 T.d__law_octets sc__law_octets (sm__law_octets T) (ways_cons ⟨rfl, rfl, fun kV doc pm an cdv ct us ws hu hw => by match us, ws, hu, hw with | [u0, u1], [], _, _ => rfl⟩ ways_nil)
/-! ### _law_letter -/
abbrev N__law_letter : List Str := ["heap", "ends", "turn"]
theorem nd__law_letter : N__law_letter.Nodup := by decide +kernel
noncomputable def b__law_letter : Sx :=
  (sSeq (sAsg (eLc (iRange1 (eC (.int 2))) (gNm 2) tYes' (eCallF m__law_pick [.inl 0, .inl 1] [] (aCons (eVar 0) (aCons (eLst (aCons (eC (.int 0)) (aCons (eC (.int 1)) (aCons (eC (.int 167837953)) (aCons (eC (.int 4294967295)) aNil))))) aNil))) [2]) (gNm 1))
    (sRet (eTup (aCons (eOp oIx (eVar 1) (eC (.int 0))) (aCons (eOp oIx (eVar 1) (eC (.int 1))) (aCons (eCallF m__law_octets [.inl 0, .inl 1] [] (aCons (eVar 0) (aCons (eCallF m__law_pick [.inl 0, .inl 1] [] (aCons (eVar 0) (aCons (eLst (aCons (eC (.int 0)) (aCons (eC (.int 1)) (aCons (eC (.int 5)) (aCons (eC (.int 6)) (aCons (eC (.int 7)) aNil)))))) aNil))) aNil))) aNil))))))
noncomputable def m__law_letter : Fx := runB 3 b__law_letter
theorem sc__law_letter : FnScope N__law_letter ["heap"] (defScope (top 34)) := ⟨rfl, rfl, rfl, nd__law_letter, rfl, by decide +kernel, by decide +kernel⟩
theorem sm__law_letter (T : Txt P w K mg) : SimSs P w K mg base { N := N__law_letter, sc := defScope (top 34), k := 3 } (defBody (top 34)) b__law_letter :=
  (simSs_cons (simS_setLc rfl nd__law_letter rfl rfl rfl rfl (by decide +kernel) (simI_range1 rfl T.n_range simE_int (fun _ => rfl)) (own := [(("turn" : Str), 2)]) ⟨rfl, by decide +kernel, by decide +kernel, by decide +kernel, by decide +kernel⟩ (simG_name nd__law_letter rfl (by first | exact .inl rfl | exact .inr rfl) (by first | exact .inl rfl | exact .inr rfl)) simP_nil (simE_cal (q := ⟨2, [], [.inl 0, .inl 1], []⟩) rfl (ok__law_pick T) (.head _) (by decide) rfl (simC_pos (simA_cons (simE_var rfl (by first | exact .inl rfl | exact .inr (.inl rfl) | exact .inr (.inr rfl))) (simA_cons (simE_lst (simA_cons simE_int (simA_cons simE_int (simA_cons simE_int (simA_cons simE_int simA_nil (fun _ => rfl)) (fun _ => rfl)) (fun _ => rfl)) (fun _ => rfl))) simA_nil (fun _ => rfl)) (fun _ => rfl)) (aLen_cons (aLen_cons aLen_nil)) (fun _ => rfl) (fun _ _ => rfl))) (fun _ _ => rfl))
    (simSs_one (simS_ret (simE_tup (simA_cons (simE_ix ok_ix (simE_var rfl (.inl rfl)) simE_int (fun _ _ => rfl)) (simA_cons (simE_ix ok_ix (simE_var rfl (.inl rfl)) simE_int (fun _ _ => rfl)) (simA_cons (simE_cal (q := ⟨2, [], [.inl 0, .inl 1], []⟩) rfl (ok__law_octets T) (.head _) (by decide) rfl (simC_pos (simA_cons (simE_var rfl (.inr (.inl rfl))) (simA_cons (simE_cal (q := ⟨2, [], [.inl 0, .inl 1], []⟩) rfl (ok__law_pick T) (.head _) (by decide) rfl (simC_pos (simA_cons (simE_var rfl (.inr (.inl rfl))) (simA_cons (simE_lst (simA_cons simE_int (simA_cons simE_int (simA_cons simE_int (simA_cons simE_int (simA_cons simE_int simA_nil (fun _ => rfl)) (fun _ => rfl)) (fun _ => rfl)) (fun _ => rfl)) (fun _ => rfl))) simA_nil (fun _ => rfl)) (fun _ => rfl)) (aLen_cons (aLen_cons aLen_nil)) (fun _ => rfl) (fun _ _ => rfl))) simA_nil (fun _ => rfl)) (fun _ => rfl)) (aLen_cons (aLen_cons aLen_nil)) (fun _ => rfl) (fun _ _ => rfl))) simA_nil (fun _ => rfl)) (fun _ => rfl)) (fun _ => rfl))))))
theorem ok__law_letter (T : Txt P w K mg) : Cal P w K mg base 4 ("_law_letter" : Str) [("heap" : Str)] m__law_letter [⟨1, [], [.inl 0], []⟩] := cal0 T.d__law_letter sc__law_letter (sm__law_letter T) (ways_cons ⟨rfl, rfl, fun kV doc pm an cdv ct us ws hu hw => by match us, ws, hu, hw with | [u0], [], _, _ => rfl⟩ ways_nil)
/-! ### _law_event -/
abbrev N__law_event : List Str := ["heap", "many", "made", "word", "end", "number", "place", "octets"]
theorem nd__law_event : N__law_event.Nodup := by decide +kernel
noncomputable def b__law_event : Sx :=
  (sSeq (sAsg (eCallF m__law_pick [.inl 0, .inl 1] [] (aCons (eVar 0) (aCons (eLst (aCons (eC (.str ("put" : Str))) (aCons (eC (.str ("put" : Str))) (aCons (eC (.str ("put" : Str))) (aCons (eC (.str ("bring" : Str))) (aCons (eC (.str ("bring" : Str))) (aCons (eC (.str ("bring" : Str))) (aCons (eC (.str ("bring" : Str))) (aCons (eC (.str ("bend" : Str))) (aCons (eC (.str ("forge" : Str))) (aCons (eC (.str ("again" : Str))) (aCons (eC (.str ("drop" : Str))) (aCons (eC (.str ("move" : Str))) (aCons (eC (.str ("tick" : Str))) aNil)))))))))))))) aNil))) (gNm 3))
    (sSeq (sPar3 4 5 6 (aCons (eCallF m__law_draw [.inl 0, .inl 1] [] (aCons (eVar 0) (aCons (eVar 1) aNil))) (aCons (eCallF m__law_draw [.inl 0, .inl 1] [] (aCons (eVar 0) (aCons (eOp oAdd (eVar 2) (eC (.int 1))) aNil))) (aCons (eCallF m__law_pick [.inl 0, .inl 1] [] (aCons (eVar 0) (aCons (eLst (aCons (eC (.int 10)) (aCons (eC (.int 20)) (aCons (eC (.int 30)) (aCons (eC (.int 40)) aNil))))) aNil))) aNil))))
    (sSeq (sIf (tVal (eOp (oEq false) (eVar 3) (eC (.str ("put" : Str))))) (sRet (eTup (aCons (eC (.str ("put" : Str))) (aCons (eVar 4) (aCons (eCallF m__law_letter [.inl 0] [] (aCons (eVar 0) aNil)) aNil))))) sNil)
    (sSeq (sIf (tVal (eOp (oInT false) (eVar 3) (eTup (aCons (eC (.str ("bring" : Str))) (aCons (eC (.str ("drop" : Str))) aNil))))) (sRet (eTup (aCons (eVar 3) (aCons (eIf (tVal (eOp oGt (eCallF m__law_draw [.inl 0, .inl 1] [] (aCons (eVar 0) (aCons (eC (.int 5)) aNil))) (eC (.int 0)))) (eCall (two' oMax2) (aCons (eC (.int 0)) (aCons (eOp oSub (eOp oSub (eVar 2) (eC (.int 1))) (eVar 5)) aNil))) (eVar 5)) aNil)))) sNil)
    (sSeq (sIf (tVal (eOp (oEq false) (eVar 3) (eC (.str ("bend" : Str))))) (sRet (eTup (aCons (eC (.str ("bend" : Str))) (aCons (eVar 5) (aCons (eCallF m__law_draw [.inl 0, .inl 1] [] (aCons (eVar 0) (aCons (eC (.int 20)) aNil))) (aCons (eOp oAdd (eC (.int 1)) (eCallF m__law_draw [.inl 0, .inl 1] [] (aCons (eVar 0) (aCons (eC (.int 255)) aNil)))) aNil)))))) sNil)
    (sSeq (sIf (tVal (eOp (oEq false) (eVar 3) (eC (.str ("forge" : Str))))) (sSeq (sAsg (eCallF m__law_pick [.inl 0, .inl 1] [] (aCons (eVar 0) (aCons (eLst (aCons (eCallF m__law_octets [.inl 0, .inl 1] [] (aCons (eVar 0) (aCons (eCallF m__law_draw [.inl 0, .inl 1] [] (aCons (eVar 0) (aCons (eC (.int 5)) aNil))) aNil))) (aCons (eTup (aCons (eC (.int 1)) (aCons (eC (.int 0)) (aCons (eCallF m__law_draw [.inl 0, .inl 1] [] (aCons (eVar 0) (aCons (eC (.int 2)) aNil))) aNil)))) (aCons (eOp oAdd (eTup (aCons (eC (.int 0)) (aCons (eC (.int 0)) (aCons (eC (.int 0)) aNil)))) (eOp oMul (eTup (aCons (eC (.int 0)) aNil)) (eC (.int 16)))) (aCons (eTup aNil) aNil))))) aNil))) (gNm 7))
    (sRet (eTup (aCons (eC (.str ("forge" : Str))) (aCons (eCallF m__law_pick [.inl 0, .inl 1] [] (aCons (eVar 0) (aCons (eLst (aCons (eC (.int 10)) (aCons (eC (.int 20)) (aCons (eC (.int 30)) (aCons (eC (.int 50)) aNil))))) aNil))) (aCons (eVar 6) (aCons (eVar 7) aNil))))))) sNil)
    (sSeq (sIf (tVal (eOp (oEq false) (eVar 3) (eC (.str ("again" : Str))))) (sRet (eTup (aCons (eC (.str ("again" : Str))) (aCons (eVar 5) (aCons (eCallF m__law_pick [.inl 0, .inl 1] [] (aCons (eVar 0) (aCons (eLst (aCons (eC (.int 10)) (aCons (eC (.int 20)) (aCons (eC (.int 40)) aNil)))) aNil))) (aCons (eVar 6) aNil)))))) sNil)
    (sRet (eIf (tVal (eOp (oEq false) (eVar 3) (eC (.str ("move" : Str))))) (eTup (aCons (eC (.str ("move" : Str))) (aCons (eVar 4) (aCons (eVar 6) aNil)))) (eTup (aCons (eC (.str ("tick" : Str))) (aCons (eCallF m__law_draw [.inl 0, .inl 1] [] (aCons (eVar 0) (aCons (eC (.int 3)) aNil))) aNil))))))))))))
noncomputable def m__law_event : Fx := runB 8 b__law_event
theorem sc__law_event : FnScope N__law_event ["heap", "many", "made"] (defScope (top 35)) := ⟨rfl, rfl, rfl, nd__law_event, rfl, by decide +kernel, by decide +kernel⟩
theorem sm__law_event (T : Txt P w K mg) : SimSs P w K mg base { N := N__law_event, sc := defScope (top 35), k := 4 } (defBody (top 35)) b__law_event :=
  (simSs_cons (simS_set nd__law_event rfl (.inl rfl) (.inl rfl) (simE_cal (q := ⟨2, [], [.inl 0, .inl 1], []⟩) rfl (ok__law_pick T) (.head _) (by decide) rfl (simC_pos (simA_cons (simE_var rfl (.inl rfl)) (simA_cons (simE_lst (simA_cons simE_str (simA_cons simE_str (simA_cons simE_str (simA_cons simE_str (simA_cons simE_str (simA_cons simE_str (simA_cons simE_str (simA_cons simE_str (simA_cons simE_str (simA_cons simE_str (simA_cons simE_str (simA_cons simE_str (simA_cons simE_str simA_nil (fun _ => rfl)) (fun _ => rfl)) (fun _ => rfl)) (fun _ => rfl)) (fun _ => rfl)) (fun _ => rfl)) (fun _ => rfl)) (fun _ => rfl)) (fun _ => rfl)) (fun _ => rfl)) (fun _ => rfl)) (fun _ => rfl)) (fun _ => rfl))) simA_nil (fun _ => rfl)) (fun _ => rfl)) (aLen_cons (aLen_cons aLen_nil)) (fun _ => rfl) (fun _ _ => rfl))) (fun _ => rfl))
    (simSs_cons (simS_par3 rfl nd__law_event rfl rfl rfl (by decide) (by decide) (by decide) rfl rfl rfl (simA_cons (simE_cal (q := ⟨2, [], [.inl 0, .inl 1], []⟩) rfl (ok__law_draw T) (.head _) (by decide) rfl (simC_pos (simA_cons (simE_var rfl (.inl rfl)) (simA_cons (simE_var rfl (.inl rfl)) simA_nil (fun _ => rfl)) (fun _ => rfl)) (aLen_cons (aLen_cons aLen_nil)) (fun _ => rfl) (fun _ _ => rfl))) (simA_cons (simE_cal (q := ⟨2, [], [.inl 0, .inl 1], []⟩) rfl (ok__law_draw T) (.head _) (by decide) rfl (simC_pos (simA_cons (simE_var rfl (.inl rfl)) (simA_cons (simE_op ok_add (simE_var rfl (.inl rfl)) simE_int) simA_nil (fun _ => rfl)) (fun _ => rfl)) (aLen_cons (aLen_cons aLen_nil)) (fun _ => rfl) (fun _ _ => rfl))) (simA_cons (simE_cal (q := ⟨2, [], [.inl 0, .inl 1], []⟩) rfl (ok__law_pick T) (.head _) (by decide) rfl (simC_pos (simA_cons (simE_var rfl (.inl rfl)) (simA_cons (simE_lst (simA_cons simE_int (simA_cons simE_int (simA_cons simE_int (simA_cons simE_int simA_nil (fun _ => rfl)) (fun _ => rfl)) (fun _ => rfl)) (fun _ => rfl))) simA_nil (fun _ => rfl)) (fun _ => rfl)) (aLen_cons (aLen_cons aLen_nil)) (fun _ => rfl) (fun _ _ => rfl))) simA_nil (fun _ => rfl)) (fun _ => rfl)) (fun _ => rfl)) (fun env h => by cases env; cases h; rfl) (fun _ => rfl))
    (simSs_cons (simS_if (simT_cmp (ok_eq rfl) (simE_var rfl (.inl rfl)) simE_str rfl) (simSs_one (simS_ret (simE_tup (simA_cons simE_str (simA_cons (simE_var rfl (.inl rfl)) (simA_cons (simE_cal (q := ⟨1, [], [.inl 0], []⟩) rfl (ok__law_letter T) (.head _) (by decide) rfl (simC_pos (simA_cons (simE_var rfl (.inl rfl)) simA_nil (fun _ => rfl)) (aLen_cons aLen_nil) (fun _ => rfl) (fun _ _ => rfl))) simA_nil (fun _ => rfl)) (fun _ => rfl)) (fun _ => rfl))))) simSs_nil)
    (simSs_cons (simS_if (simT_cmp (ok_inT rfl) (simE_var rfl (.inl rfl)) (simE_tup (simA_cons simE_str (simA_cons simE_str simA_nil (fun _ => rfl)) (fun _ => rfl))) rfl) (simSs_one (simS_ret (simE_tup (simA_cons (simE_var rfl (.inl rfl)) (simA_cons (simE_if (simT_cmp ok_gtI (simE_cal (q := ⟨2, [], [.inl 0, .inl 1], []⟩) rfl (ok__law_draw T) (.head _) (by decide) rfl (simC_pos (simA_cons (simE_var rfl (.inl rfl)) (simA_cons simE_int simA_nil (fun _ => rfl)) (fun _ => rfl)) (aLen_cons (aLen_cons aLen_nil)) (fun _ => rfl) (fun _ _ => rfl))) simE_int rfl) (simE_callB (ok_max2 rfl) rfl T.n_max rfl (simA_cons simE_int (simA_cons (simE_op ok_sub (simE_op ok_sub (simE_var rfl (.inl rfl)) simE_int) (simE_var rfl (.inl rfl))) simA_nil (fun _ => rfl)) (fun _ => rfl)) (fun _ => rfl) (fun _ => rfl)) (simE_var rfl (.inl rfl))) simA_nil (fun _ => rfl)) (fun _ => rfl))))) simSs_nil)
    (simSs_cons (simS_if (simT_cmp (ok_eq rfl) (simE_var rfl (.inl rfl)) simE_str rfl) (simSs_one (simS_ret (simE_tup (simA_cons simE_str (simA_cons (simE_var rfl (.inl rfl)) (simA_cons (simE_cal (q := ⟨2, [], [.inl 0, .inl 1], []⟩) rfl (ok__law_draw T) (.head _) (by decide) rfl (simC_pos (simA_cons (simE_var rfl (.inl rfl)) (simA_cons simE_int simA_nil (fun _ => rfl)) (fun _ => rfl)) (aLen_cons (aLen_cons aLen_nil)) (fun _ => rfl) (fun _ _ => rfl))) (simA_cons (simE_op ok_add simE_int (simE_cal (q := ⟨2, [], [.inl 0, .inl 1], []⟩) rfl (ok__law_draw T) (.head _) (by decide) rfl (simC_pos (simA_cons (simE_var rfl (.inl rfl)) (simA_cons simE_int simA_nil (fun _ => rfl)) (fun _ => rfl)) (aLen_cons (aLen_cons aLen_nil)) (fun _ => rfl) (fun _ _ => rfl)))) simA_nil (fun _ => rfl)) (fun _ => rfl)) (fun _ => rfl)) (fun _ => rfl))))) simSs_nil)
    (simSs_cons (simS_if (simT_cmp (ok_eq rfl) (simE_var rfl (.inl rfl)) simE_str rfl) (simSs_cons (simS_set nd__law_event rfl (.inl rfl) (.inl rfl) (simE_cal (q := ⟨2, [], [.inl 0, .inl 1], []⟩) rfl (ok__law_pick T) (.head _) (by decide) rfl (simC_pos (simA_cons (simE_var rfl (.inl rfl)) (simA_cons (simE_lst (simA_cons (simE_cal (q := ⟨2, [], [.inl 0, .inl 1], []⟩) rfl (ok__law_octets T) (.head _) (by decide) rfl (simC_pos (simA_cons (simE_var rfl (.inl rfl)) (simA_cons (simE_cal (q := ⟨2, [], [.inl 0, .inl 1], []⟩) rfl (ok__law_draw T) (.head _) (by decide) rfl (simC_pos (simA_cons (simE_var rfl (.inl rfl)) (simA_cons simE_int simA_nil (fun _ => rfl)) (fun _ => rfl)) (aLen_cons (aLen_cons aLen_nil)) (fun _ => rfl) (fun _ _ => rfl))) simA_nil (fun _ => rfl)) (fun _ => rfl)) (aLen_cons (aLen_cons aLen_nil)) (fun _ => rfl) (fun _ _ => rfl))) (simA_cons (simE_tup (simA_cons simE_int (simA_cons simE_int (simA_cons (simE_cal (q := ⟨2, [], [.inl 0, .inl 1], []⟩) rfl (ok__law_draw T) (.head _) (by decide) rfl (simC_pos (simA_cons (simE_var rfl (.inl rfl)) (simA_cons simE_int simA_nil (fun _ => rfl)) (fun _ => rfl)) (aLen_cons (aLen_cons aLen_nil)) (fun _ => rfl) (fun _ _ => rfl))) simA_nil (fun _ => rfl)) (fun _ => rfl)) (fun _ => rfl))) (simA_cons (simE_op ok_add (simE_tup (simA_cons simE_int (simA_cons simE_int (simA_cons simE_int simA_nil (fun _ => rfl)) (fun _ => rfl)) (fun _ => rfl))) (simE_op ok_mul (simE_tup (simA_cons simE_int simA_nil (fun _ => rfl))) simE_int)) (simA_cons (simE_tup simA_nil) simA_nil (fun _ => rfl)) (fun _ => rfl)) (fun _ => rfl)) (fun _ => rfl))) simA_nil (fun _ => rfl)) (fun _ => rfl)) (aLen_cons (aLen_cons aLen_nil)) (fun _ => rfl) (fun _ _ => rfl))) (fun _ => rfl))
    (simSs_one (simS_ret (simE_tup (simA_cons simE_str (simA_cons (simE_cal (q := ⟨2, [], [.inl 0, .inl 1], []⟩) rfl (ok__law_pick T) (.head _) (by decide) rfl (simC_pos (simA_cons (simE_var rfl (.inl rfl)) (simA_cons (simE_lst (simA_cons simE_int (simA_cons simE_int (simA_cons simE_int (simA_cons simE_int simA_nil (fun _ => rfl)) (fun _ => rfl)) (fun _ => rfl)) (fun _ => rfl))) simA_nil (fun _ => rfl)) (fun _ => rfl)) (aLen_cons (aLen_cons aLen_nil)) (fun _ => rfl) (fun _ _ => rfl))) (simA_cons (simE_var rfl (.inl rfl)) (simA_cons (simE_var rfl (.inl rfl)) simA_nil (fun _ => rfl)) (fun _ => rfl)) (fun _ => rfl)) (fun _ => rfl)))))) simSs_nil)
    (simSs_cons (simS_if (simT_cmp (ok_eq rfl) (simE_var rfl (.inl rfl)) simE_str rfl) (simSs_one (simS_ret (simE_tup (simA_cons simE_str (simA_cons (simE_var rfl (.inl rfl)) (simA_cons (simE_cal (q := ⟨2, [], [.inl 0, .inl 1], []⟩) rfl (ok__law_pick T) (.head _) (by decide) rfl (simC_pos (simA_cons (simE_var rfl (.inl rfl)) (simA_cons (simE_lst (simA_cons simE_int (simA_cons simE_int (simA_cons simE_int simA_nil (fun _ => rfl)) (fun _ => rfl)) (fun _ => rfl))) simA_nil (fun _ => rfl)) (fun _ => rfl)) (aLen_cons (aLen_cons aLen_nil)) (fun _ => rfl) (fun _ _ => rfl))) (simA_cons (simE_var rfl (.inl rfl)) simA_nil (fun _ => rfl)) (fun _ => rfl)) (fun _ => rfl)) (fun _ => rfl))))) simSs_nil)
    (simSs_one (simS_ret (simE_if (simT_cmp (ok_eq rfl) (simE_var rfl (.inl rfl)) simE_str rfl) (simE_tup (simA_cons simE_str (simA_cons (simE_var rfl (.inl rfl)) (simA_cons (simE_var rfl (.inl rfl)) simA_nil (fun _ => rfl)) (fun _ => rfl)) (fun _ => rfl))) (simE_tup (simA_cons simE_str (simA_cons (simE_cal (q := ⟨2, [], [.inl 0, .inl 1], []⟩) rfl (ok__law_draw T) (.head _) (by decide) rfl (simC_pos (simA_cons (simE_var rfl (.inl rfl)) (simA_cons simE_int simA_nil (fun _ => rfl)) (fun _ => rfl)) (aLen_cons (aLen_cons aLen_nil)) (fun _ => rfl) (fun _ _ => rfl))) simA_nil (fun _ => rfl)) (fun _ => rfl)))))))))))))
theorem ok__law_event (T : Txt P w K mg) : Cal P w K mg base 5 ("_law_event" : Str) [("heap" : Str), ("many" : Str), ("made" : Str)] m__law_event [⟨3, [], [.inl 0, .inl 1, .inl 2], []⟩] := cal0 T.d__law_event sc__law_event (sm__law_event T) (ways_cons ⟨rfl, rfl, fun kV doc pm an cdv ct us ws hu hw => by match us, ws, hu, hw with | [u0, u1, u2], [], _, _ => rfl⟩ ways_nil)
/-! ### _law_heard -/
abbrev N__law_heard : List Str := ["value", "many", "wrong"]
theorem nd__law_heard : N__law_heard.Nodup := by decide +kernel
noncomputable def b__law_heard : Sx :=
  (sSeq (sTry T_exm (sDrop (eCallF m_need_script [.inl 1, .inl 0] [] (aCons (eVar 1) (aCons (eVar 0) aNil)))) [⟨("InvalidScript" : Str), some 2, (sRet (eLst (aCons (eXf' T_xf 2 ("at" : Str)) (aCons (eXis T_isx 2 ("TunnelError" : Str)) aNil))))⟩])
    (sRet (eC .non)))
noncomputable def m__law_heard : Fx := runB 3 b__law_heard
theorem sc__law_heard : FnScope N__law_heard ["value", "many"] (defScope (top 40)) := ⟨rfl, rfl, rfl, nd__law_heard, rfl, by decide +kernel, by decide +kernel⟩
theorem sm__law_heard (T : Txt P w K mg) : SimSs P w K mg base { N := N__law_heard, sc := defScope (top 40), k := 9 } (defBody (top 40)) b__law_heard :=
  (simSs_cons (simS_tryAsX T.exm T.c_InvalidScript rfl rfl nd__law_heard rfl rfl rfl (simSs_one (simS_expr (simE_cal (q := ⟨0, [("many" : Str), ("value" : Str)], [.inl 1, .inl 0], []⟩) rfl (ok_need_script T) (.tail _ (.head _)) (by decide) rfl (simC_kw0 (simK_cons (simE_var rfl (.inl rfl)) (simK_cons (simE_var rfl (.inl rfl)) simK_nil)) (aLen_cons (aLen_cons aLen_nil)) (fun _ _ => rfl) (fun _ _ => rfl) (fun _ _ => rfl))) (fun _ => rfl))) (fun ax cx dx => (simSs_one (simS_ret (simE_lst (simA_cons (simE_xf (ξ := ⟨2, ax, cx, dx⟩) (n := "wrong") T.xf rfl rfl (.inl rfl)) (simA_cons (simE_xisX (ξ := ⟨2, ax, cx, dx⟩) (n := "wrong") (t := "TunnelError") T.isx T.c_TunnelError T.n_isinstance rfl rfl (.inl rfl) rfl rfl) simA_nil (fun _ => rfl)) (fun _ => rfl)))))))
    (simSs_one (simS_ret simE_non)))
theorem ok__law_heard (T : Txt P w K mg) : Cal P w K mg base 10 ("_law_heard" : Str) [("value" : Str), ("many" : Str)] m__law_heard [⟨2, [], [.inl 0, .inl 1], []⟩] := cal0 T.d__law_heard sc__law_heard (sm__law_heard T) (ways_cons ⟨rfl, rfl, fun kV doc pm an cdv ct us ws hu hw => by match us, ws, hu, hw with | [u0, u1], [], _, _ => rfl⟩ ways_nil)
/-! ### _law_number -/
abbrev N__law_number : List Str := ["value", "bound"]
theorem nd__law_number : N__law_number.Nodup := by decide +kernel
noncomputable def b__law_number : Sx :=
  (sSeq (sIf (tOr' (tNot' (tVal (eCall (two' oIsi) (aCons (eVar 0) (aCons (eC (.ty "int")) aNil))))) (tOr' (tVal (eCall (two' oIsi) (aCons (eVar 0) (aCons (eC (.ty "bool")) aNil)))) (tVal (eOp oLt (eVar 0) (eC (.int 0)))))) (sRet (eC (.bl false))) sNil)
    (sRet (eOr (eOp (oIsN false) (eVar 1) (eC .non)) (eOp oLt (eVar 0) (eVar 1)))))
noncomputable def m__law_number : Fx := runB 2 b__law_number
theorem sc__law_number : FnScope N__law_number ["value", "bound"] (defScope (top 36)) := ⟨rfl, rfl, rfl, nd__law_number, rfl, by decide +kernel, by decide +kernel⟩
theorem sm__law_number (T : Txt P w K mg) : SimSs P w K mg base { N := N__law_number, sc := defScope (top 36), k := 0 } (defBody (top 36)) b__law_number :=
  (simSs_cons (simS_if (simT_W (simW_or (simT_not (simT_val (simE_callB (ok_isi) rfl T.n_isinstance rfl (simA_cons (simE_var rfl (.inl rfl)) (simA_cons (simE_ty rfl T.n_int rfl) simA_nil (fun _ => rfl)) (fun _ => rfl)) (fun _ => rfl) (fun _ => rfl)) (fun _ _ => rfl))) (simW_or (simT_val (simE_callB (ok_isi) rfl T.n_isinstance rfl (simA_cons (simE_var rfl (.inl rfl)) (simA_cons (simE_ty rfl T.n_bool rfl) simA_nil (fun _ => rfl)) (fun _ => rfl)) (fun _ => rfl) (fun _ => rfl)) (fun _ _ => rfl)) (simW_or1 (simT_cmp ok_ltI (simE_var rfl (.inl rfl)) simE_int rfl))))) (simSs_one (simS_ret simE_bl)) simSs_nil)
    (simSs_one (simS_ret (simE_or (simE_cmp ok_is (simE_var rfl (.inl rfl)) simE_non rfl) (simE_one (simE_cmp ok_ltI (simE_var rfl (.inl rfl)) (simE_var rfl (.inl rfl)) rfl))))))
theorem ok__law_number (T : Txt P w K mg) : Cal P w K mg base 1 ("_law_number" : Str) [("value" : Str), ("bound" : Str)] m__law_number [⟨2, [], [.inl 0, .inl 1], []⟩] := cal0 T.d__law_number sc__law_number (sm__law_number T) (ways_cons ⟨rfl, rfl, fun kV doc pm an cdv ct us ws hu hw => by match us, ws, hu, hw with | [u0, u1], [], _, _ => rfl⟩ ways_nil)
/-! ### _law_is_octets -/
abbrev N__law_is_octets : List Str := ["value", "thing"]
theorem nd__law_is_octets : N__law_is_octets.Nodup := by decide +kernel
noncomputable def b__law_is_octets : Sx :=
  (sRet (eAnd (eCall (two' oIsi) (aCons (eVar 0) (aCons (eC (.ty "tuple")) aNil))) (eOp (oEq false) (eLc (iSeq (eVar 0)) (gNm 1) (tNot' (tVal (eCallF m__law_number [.inl 0, .inl 1] [] (aCons (eVar 1) (aCons (eC (.int 256)) aNil))))) (eVar 1) [1]) (eLst aNil))))
noncomputable def m__law_is_octets : Fx := runB 2 b__law_is_octets
theorem sc__law_is_octets : FnScope N__law_is_octets ["value"] (defScope (top 37)) := ⟨rfl, rfl, rfl, nd__law_is_octets, rfl, by decide +kernel, by decide +kernel⟩
theorem sm__law_is_octets (T : Txt P w K mg) : SimSs P w K mg base { N := N__law_is_octets, sc := defScope (top 37), k := 1 } (defBody (top 37)) b__law_is_octets :=
  (simSs_one (simS_ret (simE_and (simE_callB (ok_isi) rfl T.n_isinstance rfl (simA_cons (simE_var rfl (.inl rfl)) (simA_cons (simE_ty rfl T.n_tuple rfl) simA_nil (fun _ => rfl)) (fun _ => rfl)) (fun _ => rfl) (fun _ => rfl)) (simE_one (simE_cmp (ok_eq rfl) (simE_lc rfl nd__law_is_octets (simI_seq (simE_var rfl (.inl rfl))) (own := [(("thing" : Str), 1)]) ⟨rfl, by decide +kernel, by decide +kernel, by decide +kernel, by decide +kernel⟩ (simG_name nd__law_is_octets rfl (by first | exact .inl rfl | exact .inr rfl) (by first | exact .inl rfl | exact .inr rfl)) (simP_one (simT_not (simT_val (simE_cal (q := ⟨2, [], [.inl 0, .inl 1], []⟩) rfl (ok__law_number T) (.head _) (by decide) rfl (simC_pos (simA_cons (simE_var rfl (by first | exact .inl rfl | exact .inr (.inl rfl) | exact .inr (.inr rfl))) (simA_cons simE_int simA_nil (fun _ => rfl)) (fun _ => rfl)) (aLen_cons (aLen_cons aLen_nil)) (fun _ => rfl) (fun _ _ => rfl))) (fun _ _ => rfl)))) (simE_var rfl (by first | exact .inl rfl | exact .inr (.inl rfl) | exact .inr (.inr rfl))) (fun _ _ => rfl)) (simE_lst simA_nil) rfl)))))
theorem ok__law_is_octets (T : Txt P w K mg) : Cal P w K mg base 2 ("_law_is_octets" : Str) [("value" : Str)] m__law_is_octets [⟨1, [], [.inl 0], []⟩] := cal0 T.d__law_is_octets sc__law_is_octets (sm__law_is_octets T) (ways_cons ⟨rfl, rfl, fun kV doc pm an cdv ct us ws hu hw => by match us, ws, hu, hw with | [u0], [], _, _ => rfl⟩ ways_nil)
/-! ### _law_is_letter -/
abbrev N__law_is_letter : List Str := ["value"]
theorem nd__law_is_letter : N__law_is_letter.Nodup := by decide +kernel
noncomputable def b__law_is_letter : Sx :=
  (sSeq (sIf (tOr' (tNot' (tVal (eCall (two' oIsi) (aCons (eVar 0) (aCons (eC (.ty "tuple")) aNil))))) (tVal (eOp (oEq true) (eCall (one' oLen) (aCons (eVar 0) aNil)) (eC (.int 3))))) (sRet (eC (.bl false))) sNil)
    (sSeq (sIf (tOr' (tNot' (tVal (eCallF m__law_number [.inl 0, .inl 1] [] (aCons (eOp oIx (eVar 0) (eC (.int 0))) (aCons (eC (.int 4294967296)) aNil))))) (tNot' (tVal (eCallF m__law_number [.inl 0, .inl 1] [] (aCons (eOp oIx (eVar 0) (eC (.int 1))) (aCons (eC (.int 4294967296)) aNil)))))) (sRet (eC (.bl false))) sNil)
    (sRet (eAnd (eCallF m__law_is_octets [.inl 0] [] (aCons (eOp oIx (eVar 0) (eC (.int 2))) aNil)) (eOp oLt (eCall (one' oLen) (aCons (eOp oIx (eVar 0) (eC (.int 2))) aNil)) (eC (.int 65536)))))))
noncomputable def m__law_is_letter : Fx := runB 1 b__law_is_letter
theorem sc__law_is_letter : FnScope N__law_is_letter ["value"] (defScope (top 38)) := ⟨rfl, rfl, rfl, nd__law_is_letter, rfl, by decide +kernel, by decide +kernel⟩
theorem sm__law_is_letter (T : Txt P w K mg) : SimSs P w K mg base { N := N__law_is_letter, sc := defScope (top 38), k := 2 } (defBody (top 38)) b__law_is_letter :=
  (simSs_cons (simS_if (simT_W (simW_or (simT_not (simT_val (simE_callB (ok_isi) rfl T.n_isinstance rfl (simA_cons (simE_var rfl (.inl rfl)) (simA_cons (simE_ty rfl T.n_tuple rfl) simA_nil (fun _ => rfl)) (fun _ => rfl)) (fun _ => rfl) (fun _ => rfl)) (fun _ _ => rfl))) (simW_or1 (simT_cmp (ok_ne rfl) (simE_callB (ok_len) rfl T.n_len rfl (simA_cons (simE_var rfl (.inl rfl)) simA_nil (fun _ => rfl)) (fun _ => rfl) (fun _ => rfl)) simE_int rfl)))) (simSs_one (simS_ret simE_bl)) simSs_nil)
    (simSs_cons (simS_if (simT_W (simW_or (simT_not (simT_val (simE_cal (q := ⟨2, [], [.inl 0, .inl 1], []⟩) rfl (ok__law_number T) (.head _) (by decide) rfl (simC_pos (simA_cons (simE_ix ok_ix (simE_var rfl (.inl rfl)) simE_int (fun _ _ => rfl)) (simA_cons simE_int simA_nil (fun _ => rfl)) (fun _ => rfl)) (aLen_cons (aLen_cons aLen_nil)) (fun _ => rfl) (fun _ _ => rfl))) (fun _ _ => rfl))) (simW_or1 (simT_not (simT_val (simE_cal (q := ⟨2, [], [.inl 0, .inl 1], []⟩) rfl (ok__law_number T) (.head _) (by decide) rfl (simC_pos (simA_cons (simE_ix ok_ix (simE_var rfl (.inl rfl)) simE_int (fun _ _ => rfl)) (simA_cons simE_int simA_nil (fun _ => rfl)) (fun _ => rfl)) (aLen_cons (aLen_cons aLen_nil)) (fun _ => rfl) (fun _ _ => rfl))) (fun _ _ => rfl)))))) (simSs_one (simS_ret simE_bl)) simSs_nil)
    (simSs_one (simS_ret (simE_and (simE_cal (q := ⟨1, [], [.inl 0], []⟩) rfl (ok__law_is_octets T) (.head _) (by decide) rfl (simC_pos (simA_cons (simE_ix ok_ix (simE_var rfl (.inl rfl)) simE_int (fun _ _ => rfl)) simA_nil (fun _ => rfl)) (aLen_cons aLen_nil) (fun _ => rfl) (fun _ _ => rfl))) (simE_one (simE_cmp ok_ltI (simE_callB (ok_len) rfl T.n_len rfl (simA_cons (simE_ix ok_ix (simE_var rfl (.inl rfl)) simE_int (fun _ _ => rfl)) simA_nil (fun _ => rfl)) (fun _ => rfl) (fun _ => rfl)) simE_int rfl)))))))
theorem ok__law_is_letter (T : Txt P w K mg) : Cal P w K mg base 3 ("_law_is_letter" : Str) [("value" : Str)] m__law_is_letter [⟨1, [], [.inl 0], []⟩] := cal0 T.d__law_is_letter sc__law_is_letter (sm__law_is_letter T) (ways_cons ⟨rfl, rfl, fun kV doc pm an cdv ct us ws hu hw => by match us, ws, hu, hw with | [u0], [], _, _ => rfl⟩ ways_nil)
/-! ### _law_is_event -/
abbrev N__law_is_event : List Str := ["value", "many", "word", "size"]
theorem nd__law_is_event : N__law_is_event.Nodup := by decide +kernel
noncomputable def b__law_is_event : Sx :=
  (sSeq (sIf (tOr' (tNot' (tVal (eCall (two' oIsi) (aCons (eVar 0) (aCons (eC (.ty "tuple")) aNil))))) (tOr' (tVal (eOp (oEq false) (eCall (one' oLen) (aCons (eVar 0) aNil)) (eC (.int 0)))) (tNot' (tVal (eCall (two' oIsi) (aCons (eOp oIx (eVar 0) (eC (.int 0))) (aCons (eC (.ty "str")) aNil))))))) (sRet (eC (.bl false))) sNil)
    (sSeq (sPar 2 3 (aCons (eOp oIx (eVar 0) (eC (.int 0))) (aCons (eCall (one' oLen) (aCons (eVar 0) aNil)) aNil)))
    (sSeq (sIf (tVal (eOp (oInT false) (eVar 2) (eTup (aCons (eC (.str ("bring" : Str))) (aCons (eC (.str ("drop" : Str))) (aCons (eC (.str ("tick" : Str))) aNil)))))) (sRet (eAnd (eOp (oEq false) (eVar 3) (eC (.int 2))) (eCallF m__law_number [.inl 0, .inl 1] [] (aCons (eOp oIx (eVar 0) (eC (.int 1))) (aCons (eC .non) aNil))))) sNil)
    (sSeq (sIf (tVal (eOp (oEq false) (eVar 2) (eC (.str ("put" : Str))))) (sRet (eAnd (eOp (oEq false) (eVar 3) (eC (.int 3))) (eAnd (eCallF m__law_number [.inl 0, .inl 1] [] (aCons (eOp oIx (eVar 0) (eC (.int 1))) (aCons (eVar 1) aNil))) (eCallF m__law_is_letter [.inl 0] [] (aCons (eOp oIx (eVar 0) (eC (.int 2))) aNil))))) sNil)
    (sSeq (sIf (tVal (eOp (oEq false) (eVar 2) (eC (.str ("move" : Str))))) (sRet (eAnd (eOp (oEq false) (eVar 3) (eC (.int 3))) (eAnd (eCallF m__law_number [.inl 0, .inl 1] [] (aCons (eOp oIx (eVar 0) (eC (.int 1))) (aCons (eVar 1) aNil))) (eCallF m__law_number [.inl 0, .inl 1] [] (aCons (eOp oIx (eVar 0) (eC (.int 2))) (aCons (eC .non) aNil)))))) sNil)
    (sSeq (sIf (tOr' (tVal (eOp (oInT true) (eVar 2) (eTup (aCons (eC (.str ("bend" : Str))) (aCons (eC (.str ("forge" : Str))) (aCons (eC (.str ("again" : Str))) aNil)))))) (tVal (eOp (oEq true) (eVar 3) (eC (.int 4))))) (sRet (eC (.bl false))) sNil)
    (sSeq (sIf (tOr' (tNot' (tVal (eCallF m__law_number [.inl 0, .inl 1] [] (aCons (eOp oIx (eVar 0) (eC (.int 1))) (aCons (eC .non) aNil))))) (tNot' (tVal (eCallF m__law_number [.inl 0, .inl 1] [] (aCons (eOp oIx (eVar 0) (eC (.int 2))) (aCons (eC .non) aNil)))))) (sRet (eC (.bl false))) sNil)
    (sSeq (sIf (tVal (eOp (oEq false) (eVar 2) (eC (.str ("forge" : Str))))) (sRet (eCallF m__law_is_octets [.inl 0] [] (aCons (eOp oIx (eVar 0) (eC (.int 3))) aNil))) sNil)
    (sRet (eAnd (eCallF m__law_number [.inl 0, .inl 1] [] (aCons (eOp oIx (eVar 0) (eC (.int 3))) (aCons (eIf (tVal (eOp (oEq false) (eVar 2) (eC (.str ("again" : Str))))) (eC .non) (eC (.int 256))) aNil))) (eOr (eOp (oEq false) (eVar 2) (eC (.str ("again" : Str)))) (eOp oGt (eOp oIx (eVar 0) (eC (.int 3))) (eC (.int 0))))))))))))))
noncomputable def m__law_is_event : Fx := runB 4 b__law_is_event
theorem sc__law_is_event : FnScope N__law_is_event ["value", "many"] (defScope (top 39)) := ⟨rfl, rfl, rfl, nd__law_is_event, rfl, by decide +kernel, by decide +kernel⟩
theorem sm__law_is_event (T : Txt P w K mg) : SimSs P w K mg base { N := N__law_is_event, sc := defScope (top 39), k := 3 } (defBody (top 39)) b__law_is_event :=
  (simSs_cons (simS_if (simT_W (simW_or (simT_not (simT_val (simE_callB (ok_isi) rfl T.n_isinstance rfl (simA_cons (simE_var rfl (.inl rfl)) (simA_cons (simE_ty rfl T.n_tuple rfl) simA_nil (fun _ => rfl)) (fun _ => rfl)) (fun _ => rfl) (fun _ => rfl)) (fun _ _ => rfl))) (simW_or (simT_cmp (ok_eq rfl) (simE_callB (ok_len) rfl T.n_len rfl (simA_cons (simE_var rfl (.inl rfl)) simA_nil (fun _ => rfl)) (fun _ => rfl) (fun _ => rfl)) simE_int rfl) (simW_or1 (simT_not (simT_val (simE_callB (ok_isi) rfl T.n_isinstance rfl (simA_cons (simE_ix ok_ix (simE_var rfl (.inl rfl)) simE_int (fun _ _ => rfl)) (simA_cons (simE_ty rfl T.n_str rfl) simA_nil (fun _ => rfl)) (fun _ => rfl)) (fun _ => rfl) (fun _ => rfl)) (fun _ _ => rfl))))))) (simSs_one (simS_ret simE_bl)) simSs_nil)
    (simSs_cons (simS_par rfl nd__law_is_event rfl rfl (by decide) rfl rfl (simA_cons (simE_ix ok_ix (simE_var rfl (.inl rfl)) simE_int (fun _ _ => rfl)) (simA_cons (simE_callB (ok_len) rfl T.n_len rfl (simA_cons (simE_var rfl (.inl rfl)) simA_nil (fun _ => rfl)) (fun _ => rfl) (fun _ => rfl)) simA_nil (fun _ => rfl)) (fun _ => rfl)) (fun env h => by cases env; cases h; rfl) (fun _ => rfl))
    (simSs_cons (simS_if (simT_cmp (ok_inT rfl) (simE_var rfl (.inl rfl)) (simE_tup (simA_cons simE_str (simA_cons simE_str (simA_cons simE_str simA_nil (fun _ => rfl)) (fun _ => rfl)) (fun _ => rfl))) rfl) (simSs_one (simS_ret (simE_and (simE_cmp (ok_eq rfl) (simE_var rfl (.inl rfl)) simE_int rfl) (simE_one (simE_cal (q := ⟨2, [], [.inl 0, .inl 1], []⟩) rfl (ok__law_number T) (.head _) (by decide) rfl (simC_pos (simA_cons (simE_ix ok_ix (simE_var rfl (.inl rfl)) simE_int (fun _ _ => rfl)) (simA_cons simE_non simA_nil (fun _ => rfl)) (fun _ => rfl)) (aLen_cons (aLen_cons aLen_nil)) (fun _ => rfl) (fun _ _ => rfl))))))) simSs_nil)
    (simSs_cons (simS_if (simT_cmp (ok_eq rfl) (simE_var rfl (.inl rfl)) simE_str rfl) (simSs_one (simS_ret (simE_and (simE_cmp (ok_eq rfl) (simE_var rfl (.inl rfl)) simE_int rfl) (simE_and (simE_cal (q := ⟨2, [], [.inl 0, .inl 1], []⟩) rfl (ok__law_number T) (.head _) (by decide) rfl (simC_pos (simA_cons (simE_ix ok_ix (simE_var rfl (.inl rfl)) simE_int (fun _ _ => rfl)) (simA_cons (simE_var rfl (.inl rfl)) simA_nil (fun _ => rfl)) (fun _ => rfl)) (aLen_cons (aLen_cons aLen_nil)) (fun _ => rfl) (fun _ _ => rfl))) (simE_one (simE_cal (q := ⟨1, [], [.inl 0], []⟩) rfl (ok__law_is_letter T) (.head _) (by decide) rfl (simC_pos (simA_cons (simE_ix ok_ix (simE_var rfl (.inl rfl)) simE_int (fun _ _ => rfl)) simA_nil (fun _ => rfl)) (aLen_cons aLen_nil) (fun _ => rfl) (fun _ _ => rfl)))))))) simSs_nil)
    (simSs_cons (simS_if (simT_cmp (ok_eq rfl) (simE_var rfl (.inl rfl)) simE_str rfl) (simSs_one (simS_ret (simE_and (simE_cmp (ok_eq rfl) (simE_var rfl (.inl rfl)) simE_int rfl) (simE_and (simE_cal (q := ⟨2, [], [.inl 0, .inl 1], []⟩) rfl (ok__law_number T) (.head _) (by decide) rfl (simC_pos (simA_cons (simE_ix ok_ix (simE_var rfl (.inl rfl)) simE_int (fun _ _ => rfl)) (simA_cons (simE_var rfl (.inl rfl)) simA_nil (fun _ => rfl)) (fun _ => rfl)) (aLen_cons (aLen_cons aLen_nil)) (fun _ => rfl) (fun _ _ => rfl))) (simE_one (simE_cal (q := ⟨2, [], [.inl 0, .inl 1], []⟩) rfl (ok__law_number T) (.head _) (by decide) rfl (simC_pos (simA_cons (simE_ix ok_ix (simE_var rfl (.inl rfl)) simE_int (fun _ _ => rfl)) (simA_cons simE_non simA_nil (fun _ => rfl)) (fun _ => rfl)) (aLen_cons (aLen_cons aLen_nil)) (fun _ => rfl) (fun _ _ => rfl)))))))) simSs_nil)
    (simSs_cons (simS_if (simT_W (simW_or (simT_cmp (ok_notinT rfl) (simE_var rfl (.inl rfl)) (simE_tup (simA_cons simE_str (simA_cons simE_str (simA_cons simE_str simA_nil (fun _ => rfl)) (fun _ => rfl)) (fun _ => rfl))) rfl) (simW_or1 (simT_cmp (ok_ne rfl) (simE_var rfl (.inl rfl)) simE_int rfl)))) (simSs_one (simS_ret simE_bl)) simSs_nil)
    (simSs_cons (simS_if (simT_W (simW_or (simT_not (simT_val (simE_cal (q := ⟨2, [], [.inl 0, .inl 1], []⟩) rfl (ok__law_number T) (.head _) (by decide) rfl (simC_pos (simA_cons (simE_ix ok_ix (simE_var rfl (.inl rfl)) simE_int (fun _ _ => rfl)) (simA_cons simE_non simA_nil (fun _ => rfl)) (fun _ => rfl)) (aLen_cons (aLen_cons aLen_nil)) (fun _ => rfl) (fun _ _ => rfl))) (fun _ _ => rfl))) (simW_or1 (simT_not (simT_val (simE_cal (q := ⟨2, [], [.inl 0, .inl 1], []⟩) rfl (ok__law_number T) (.head _) (by decide) rfl (simC_pos (simA_cons (simE_ix ok_ix (simE_var rfl (.inl rfl)) simE_int (fun _ _ => rfl)) (simA_cons simE_non simA_nil (fun _ => rfl)) (fun _ => rfl)) (aLen_cons (aLen_cons aLen_nil)) (fun _ => rfl) (fun _ _ => rfl))) (fun _ _ => rfl)))))) (simSs_one (simS_ret simE_bl)) simSs_nil)
    (simSs_cons (simS_if (simT_cmp (ok_eq rfl) (simE_var rfl (.inl rfl)) simE_str rfl) (simSs_one (simS_ret (simE_cal (q := ⟨1, [], [.inl 0], []⟩) rfl (ok__law_is_octets T) (.head _) (by decide) rfl (simC_pos (simA_cons (simE_ix ok_ix (simE_var rfl (.inl rfl)) simE_int (fun _ _ => rfl)) simA_nil (fun _ => rfl)) (aLen_cons aLen_nil) (fun _ => rfl) (fun _ _ => rfl))))) simSs_nil)
    (simSs_one (simS_ret (simE_and (simE_cal (q := ⟨2, [], [.inl 0, .inl 1], []⟩) rfl (ok__law_number T) (.head _) (by decide) rfl (simC_pos (simA_cons (simE_ix ok_ix (simE_var rfl (.inl rfl)) simE_int (fun _ _ => rfl)) (simA_cons (simE_if (simT_cmp (ok_eq rfl) (simE_var rfl (.inl rfl)) simE_str rfl) simE_non simE_int) simA_nil (fun _ => rfl)) (fun _ => rfl)) (aLen_cons (aLen_cons aLen_nil)) (fun _ => rfl) (fun _ _ => rfl))) (simE_one (simE_or (simE_cmp (ok_eq rfl) (simE_var rfl (.inl rfl)) simE_str rfl) (simE_one (simE_cmp ok_gtI (simE_ix ok_ix (simE_var rfl (.inl rfl)) simE_int (fun _ _ => rfl)) simE_int rfl)))))))))))))))
theorem ok__law_is_event (T : Txt P w K mg) : Cal P w K mg base 4 ("_law_is_event" : Str) [("value" : Str), ("many" : Str)] m__law_is_event [⟨2, [], [.inl 0, .inl 1], []⟩] := cal0 T.d__law_is_event sc__law_is_event (sm__law_is_event T) (ways_cons ⟨rfl, rfl, fun kV doc pm an cdv ct us ws hu hw => by match us, ws, hu, hw with | [u0, u1], [], _, _ => rfl⟩ ways_nil)
/-! ### _law_due -/
abbrev N__law_due : List Str := ["value", "many", "wrong", "at"]
theorem nd__law_due : N__law_due.Nodup := by decide +kernel
noncomputable def b__law_due : Sx :=
  (sSeq (sIf (tNot' (tVal (eCall (two' oIsi) (aCons (eVar 0) (aCons (eC (.ty "tuple")) aNil))))) (sRet (eLst (aCons (eOp oSub (eC (.int 0)) (eC (.int 1))) (aCons (eC (.bl true)) aNil)))) sNil)
    (sSeq (sAsg (eLc (iRange1 (eCall (one' oLen) (aCons (eVar 0) aNil))) (gNm 3) (tNot' (tVal (eCallF m__law_is_event [.inl 0, .inl 1] [] (aCons (eOp oIx (eVar 0) (eVar 3)) (aCons (eVar 1) aNil))))) (eVar 3) [3]) (gNm 2))
    (sRet (eIf (tVal (eOp (oEq true) (eVar 2) (eLst aNil))) (eLst (aCons (eOp oIx (eVar 2) (eC (.int 0))) (aCons (eC (.bl true)) aNil))) (eC .non)))))
noncomputable def m__law_due : Fx := runB 4 b__law_due
theorem sc__law_due : FnScope N__law_due ["value", "many"] (defScope (top 41)) := ⟨rfl, rfl, rfl, nd__law_due, rfl, by decide +kernel, by decide +kernel⟩
theorem sm__law_due (T : Txt P w K mg) : SimSs P w K mg base { N := N__law_due, sc := defScope (top 41), k := 4 } (defBody (top 41)) b__law_due :=
  (simSs_cons (simS_if (simT_not (simT_val (simE_callB (ok_isi) rfl T.n_isinstance rfl (simA_cons (simE_var rfl (.inr (.inl rfl))) (simA_cons (simE_ty rfl T.n_tuple rfl) simA_nil (fun _ => rfl)) (fun _ => rfl)) (fun _ => rfl) (fun _ => rfl)) (fun _ _ => rfl))) (simSs_one (simS_ret (simE_lst (simA_cons (simE_op ok_sub simE_int simE_int) (simA_cons simE_bl simA_nil (fun _ => rfl)) (fun _ => rfl))))) simSs_nil)
    (simSs_cons (simS_setLc rfl nd__law_due rfl rfl rfl rfl (by decide +kernel) (simI_range1 rfl T.n_range (simE_callB (ok_len) rfl T.n_len rfl (simA_cons (simE_var rfl (.inr (.inl rfl))) simA_nil (fun _ => rfl)) (fun _ => rfl) (fun _ => rfl)) (fun _ => rfl)) (own := [(("at" : Str), 3)]) ⟨rfl, by decide +kernel, by decide +kernel, by decide +kernel, by decide +kernel⟩ (simG_name nd__law_due rfl (by first | exact .inl rfl | exact .inr rfl) (by first | exact .inl rfl | exact .inr rfl)) (simP_one (simT_not (simT_val (simE_cal (q := ⟨2, [], [.inl 0, .inl 1], []⟩) rfl (ok__law_is_event T) (.head _) (by decide) rfl (simC_pos (simA_cons (simE_ix ok_ix (simE_var rfl (by first | exact .inl rfl | exact .inr (.inl rfl) | exact .inr (.inr rfl))) (simE_var rfl (by first | exact .inl rfl | exact .inr (.inl rfl) | exact .inr (.inr rfl))) (fun _ _ => rfl)) (simA_cons (simE_var rfl (by first | exact .inl rfl | exact .inr (.inl rfl) | exact .inr (.inr rfl))) simA_nil (fun _ => rfl)) (fun _ => rfl)) (aLen_cons (aLen_cons aLen_nil)) (fun _ => rfl) (fun _ _ => rfl))) (fun _ _ => rfl)))) (simE_var rfl (by first | exact .inl rfl | exact .inr (.inl rfl) | exact .inr (.inr rfl))) (fun _ _ => rfl))
    (simSs_one (simS_ret (simE_if (simT_cmp (ok_ne rfl) (simE_var rfl (.inl rfl)) (simE_lst simA_nil) rfl) (simE_lst (simA_cons (simE_ix ok_ix (simE_var rfl (.inl rfl)) simE_int (fun _ _ => rfl)) (simA_cons simE_bl simA_nil (fun _ => rfl)) (fun _ => rfl))) simE_non)))))
theorem ok__law_due (T : Txt P w K mg) : Cal P w K mg base 5 ("_law_due" : Str) [("value" : Str), ("many" : Str)] m__law_due [⟨2, [], [.inl 0, .inl 1], []⟩] := cal0 T.d__law_due sc__law_due (sm__law_due T) (ways_cons ⟨rfl, rfl, fun kV doc pm an cdv ct us ws hu hw => by match us, ws, hu, hw with | [u0, u1], [], _, _ => rfl⟩ ways_nil)
/-! ### _law_spoilt -/
abbrev N__law_spoilt : List Str := ["heap", "event", "at", "strange", "menu"]
theorem nd__law_spoilt : N__law_spoilt.Nodup := by decide +kernel
noncomputable def b__law_spoilt : Sx :=
  (sSeq (sAsg (eCallF m__law_draw [.inl 0, .inl 1] [] (aCons (eVar 0) (aCons (eCall (one' oLen) (aCons (eVar 1) aNil)) aNil))) (gNm 2))
    (sSeq (sAsg (eLst (aCons (eC .non) (aCons (eC (.bl true)) (aCons (eOp oSub (eC (.int 0)) (eC (.int 1))) (aCons (eC (.int 0)) (aCons (eC (.int 1)) (aCons (eC (.int 3)) (aCons (eC (.int 256)) (aCons (eC (.str ("put" : Str))) (aCons (eC (.str ("bring" : Str))) (aCons (eC (.str ("move" : Str))) (aCons (eC (.str ("tick" : Str))) (aCons (eC (.str ("" : Str))) (aCons (eTup aNil) (aCons (eTup (aCons (eC (.int 1)) (aCons (eC (.int 2)) aNil))) (aCons (eTup (aCons (eC (.int 256)) aNil)) (aCons (eLst (aCons (eC (.int 1)) aNil)) (aCons (eTup (aCons (eC (.int 1)) (aCons (eC (.int 2)) (aCons (eTup (aCons (eC (.int 3)) aNil)) aNil)))) (aCons (eOp oPow (eC (.int 10)) (eC (.int 12))) aNil))))))))))))))))))) (gNm 3))
    (sSeq (sAsg (eLst (aCons (eOp oAdd (eOp oAdd (eSl (eVar 1) oNoP (oPart (eVar 2))) (eTup (aCons (eCallF m__law_pick [.inl 0, .inl 1] [] (aCons (eVar 0) (aCons (eVar 3) aNil))) aNil))) (eSl (eVar 1) (oPart (eOp oAdd (eVar 2) (eC (.int 1)))) oNoP)) (aCons (eOp oAdd (eSl (eVar 1) oNoP (oPart (eVar 2))) (eSl (eVar 1) (oPart (eOp oAdd (eVar 2) (eC (.int 1)))) oNoP)) (aCons (eOp oAdd (eVar 1) (eTup (aCons (eC (.int 1)) aNil))) (aCons (eCall (one' oList) (aCons (eVar 1) aNil)) aNil))))) (gNm 4))
    (sRet (eCallF m__law_pick [.inl 0, .inl 1] [] (aCons (eVar 0) (aCons (eOp oAdd (eVar 4) (eLst (aCons (eOp oAdd (eOp oAdd (eSl (eVar 1) oNoP (oPart (eVar 2))) (eSl (eVar 1) (oPart (eVar 2)) (oPart (eOp oAdd (eVar 2) (eC (.int 1)))))) (eSl (eVar 1) (oPart (eVar 2)) oNoP)) (aCons (eOp oAdd (eTup (aCons (eC (.str ("Put" : Str))) aNil)) (eSl (eVar 1) (oPart (eC (.int 1))) oNoP)) (aCons (eCallF m__law_pick [.inl 0, .inl 1] [] (aCons (eVar 0) (aCons (eVar 3) aNil))) aNil))))) aNil)))))))
noncomputable def m__law_spoilt : Fx := runB 5 b__law_spoilt
theorem sc__law_spoilt : FnScope N__law_spoilt ["heap", "event"] (defScope (top 42)) := ⟨rfl, rfl, rfl, nd__law_spoilt, rfl, by decide +kernel, by decide +kernel⟩
theorem sm__law_spoilt (T : Txt P w K mg) : SimSs P w K mg base { N := N__law_spoilt, sc := defScope (top 42), k := 2 } (defBody (top 42)) b__law_spoilt :=
  (simSs_cons (simS_set nd__law_spoilt rfl (.inl rfl) (.inl rfl) (simE_cal (q := ⟨2, [], [.inl 0, .inl 1], []⟩) rfl (ok__law_draw T) (.head _) (by decide) rfl (simC_pos (simA_cons (simE_var rfl (.inl rfl)) (simA_cons (simE_callB (ok_len) rfl T.n_len rfl (simA_cons (simE_var rfl (.inl rfl)) simA_nil (fun _ => rfl)) (fun _ => rfl) (fun _ => rfl)) simA_nil (fun _ => rfl)) (fun _ => rfl)) (aLen_cons (aLen_cons aLen_nil)) (fun _ => rfl) (fun _ _ => rfl))) (fun _ => rfl))
    (simSs_cons (simS_set nd__law_spoilt rfl (.inl rfl) (.inl rfl) (simE_lst (simA_cons simE_non (simA_cons simE_bl (simA_cons (simE_op ok_sub simE_int simE_int) (simA_cons simE_int (simA_cons simE_int (simA_cons simE_int (simA_cons simE_int (simA_cons simE_str (simA_cons simE_str (simA_cons simE_str (simA_cons simE_str (simA_cons simE_str (simA_cons (simE_tup simA_nil) (simA_cons (simE_tup (simA_cons simE_int (simA_cons simE_int simA_nil (fun _ => rfl)) (fun _ => rfl))) (simA_cons (simE_tup (simA_cons simE_int simA_nil (fun _ => rfl))) (simA_cons (simE_lst (simA_cons simE_int simA_nil (fun _ => rfl))) (simA_cons (simE_tup (simA_cons simE_int (simA_cons simE_int (simA_cons (simE_tup (simA_cons simE_int simA_nil (fun _ => rfl))) simA_nil (fun _ => rfl)) (fun _ => rfl)) (fun _ => rfl))) (simA_cons (simE_op ok_pow simE_int simE_int) simA_nil (fun _ => rfl)) (fun _ => rfl)) (fun _ => rfl)) (fun _ => rfl)) (fun _ => rfl)) (fun _ => rfl)) (fun _ => rfl)) (fun _ => rfl)) (fun _ => rfl)) (fun _ => rfl)) (fun _ => rfl)) (fun _ => rfl)) (fun _ => rfl)) (fun _ => rfl)) (fun _ => rfl)) (fun _ => rfl)) (fun _ => rfl)) (fun _ => rfl))) (fun _ => rfl))
    (simSs_cons (simS_set nd__law_spoilt rfl (.inl rfl) (.inl rfl) (simE_lst (simA_cons (simE_op ok_add (simE_op ok_add (simE_sl (simE_var rfl (.inl rfl)) simO_none (simO_some (simE_var rfl (.inl rfl)))) (simE_tup (simA_cons (simE_cal (q := ⟨2, [], [.inl 0, .inl 1], []⟩) rfl (ok__law_pick T) (.head _) (by decide) rfl (simC_pos (simA_cons (simE_var rfl (.inl rfl)) (simA_cons (simE_var rfl (.inl rfl)) simA_nil (fun _ => rfl)) (fun _ => rfl)) (aLen_cons (aLen_cons aLen_nil)) (fun _ => rfl) (fun _ _ => rfl))) simA_nil (fun _ => rfl)))) (simE_sl (simE_var rfl (.inl rfl)) (simO_some (simE_op ok_add (simE_var rfl (.inl rfl)) simE_int)) simO_none)) (simA_cons (simE_op ok_add (simE_sl (simE_var rfl (.inl rfl)) simO_none (simO_some (simE_var rfl (.inl rfl)))) (simE_sl (simE_var rfl (.inl rfl)) (simO_some (simE_op ok_add (simE_var rfl (.inl rfl)) simE_int)) simO_none)) (simA_cons (simE_op ok_add (simE_var rfl (.inl rfl)) (simE_tup (simA_cons simE_int simA_nil (fun _ => rfl)))) (simA_cons (simE_callTy (ok_list) rfl T.n_list rfl (simA_cons (simE_var rfl (.inl rfl)) simA_nil (fun _ => rfl)) (fun _ => rfl) (fun _ => rfl)) simA_nil (fun _ => rfl)) (fun _ => rfl)) (fun _ => rfl)) (fun _ => rfl))) (fun _ => rfl))
    (simSs_one (simS_ret (simE_cal (q := ⟨2, [], [.inl 0, .inl 1], []⟩) rfl (ok__law_pick T) (.head _) (by decide) rfl (simC_pos (simA_cons (simE_var rfl (.inl rfl)) (simA_cons (simE_op ok_add (simE_var rfl (.inl rfl)) (simE_lst (simA_cons (simE_op ok_add (simE_op ok_add (simE_sl (simE_var rfl (.inl rfl)) simO_none (simO_some (simE_var rfl (.inl rfl)))) (simE_sl (simE_var rfl (.inl rfl)) (simO_some (simE_var rfl (.inl rfl))) (simO_some (simE_op ok_add (simE_var rfl (.inl rfl)) simE_int)))) (simE_sl (simE_var rfl (.inl rfl)) (simO_some (simE_var rfl (.inl rfl))) simO_none)) (simA_cons (simE_op ok_add (simE_tup (simA_cons simE_str simA_nil (fun _ => rfl))) (simE_sl (simE_var rfl (.inl rfl)) (simO_some simE_int) simO_none)) (simA_cons (simE_cal (q := ⟨2, [], [.inl 0, .inl 1], []⟩) rfl (ok__law_pick T) (.head _) (by decide) rfl (simC_pos (simA_cons (simE_var rfl (.inl rfl)) (simA_cons (simE_var rfl (.inl rfl)) simA_nil (fun _ => rfl)) (fun _ => rfl)) (aLen_cons (aLen_cons aLen_nil)) (fun _ => rfl) (fun _ _ => rfl))) simA_nil (fun _ => rfl)) (fun _ => rfl)) (fun _ => rfl)))) simA_nil (fun _ => rfl)) (fun _ => rfl)) (aLen_cons (aLen_cons aLen_nil)) (fun _ => rfl) (fun _ _ => rfl))))))))
theorem ok__law_spoilt (T : Txt P w K mg) : Cal P w K mg base 3 ("_law_spoilt" : Str) [("heap" : Str), ("event" : Str)] m__law_spoilt [⟨2, [], [.inl 0, .inl 1], []⟩] := cal0 T.d__law_spoilt sc__law_spoilt (sm__law_spoilt T) (ways_cons ⟨rfl, rfl, fun kV doc pm an cdv ct us ws hu hw => by match us, ws, hu, hw with | [u0, u1], [], _, _ => rfl⟩ ways_nil)
/-! ### law -/
abbrev N_law : List Str := ["script", "heap", "turn", "many", "events", "value", "text", "at", "spoilt", "bent", "arrivals", "made", "due", "part", "arrival"]
theorem nd_law : N_law.Nodup := by decide +kernel
noncomputable def b_law : Sx :=
  (sSeq (sAsg (eCallF m__law_heap [.inl 0, .inl 1] [] (aCons (eVar 0) (aCons (eC (.int 73)) aNil))) (gNm 1))
    (sSeq (sFor (iRange1 (eC (.int 6))) (gNm 2)
    (sSeq (sAsg (eOp oAdd (eC (.int 1)) (eCallF m__law_draw [.inl 0, .inl 1] [] (aCons (eVar 1) (aCons (eC (.int 3)) aNil)))) (gNm 3))
    (sSeq (sAsg (eLc (iRange1 (eCallF m__law_draw [.inl 0, .inl 1] [] (aCons (eVar 1) (aCons (eC (.int 5)) aNil)))) (gNm 13) tYes' (eCallF m__law_event [.inl 0, .inl 1, .inl 2] [] (aCons (eVar 1) (aCons (eVar 3) (aCons (eC (.int 4)) aNil)))) [13]) (gNm 4))
    (sSeq (sAsg (eCall (one' oTuple) (aCons (eVar 4) aNil)) (gNm 5))
    (sSeq (sAsg (eCall (one' oRepr) (aCons (eVar 5) aNil)) (gNm 6))
    (sSeq (sIf (tOr' (tVal (eOp (oIsN true) (eCallF m__law_heard [.inl 0, .inl 1] [] (aCons (eVar 5) (aCons (eVar 3) aNil))) (eC .non))) (tOr' (tVal (eOp (oIsN true) (eCallF m_need_script [.inl 0, .inl 1] [] (aCons (eVar 5) (aCons (eVar 3) aNil))) (eC .non))) (tVal (eOp (oEq true) (eCall (one' oRepr) (aCons (eVar 5) aNil)) (eVar 6))))) (sRet (eC (.bl false))) sNil)
    (sSeq (sAsg (eCallF m__law_draw [.inl 0, .inl 1] [] (aCons (eVar 1) (aCons (eOp oAdd (eCall (one' oLen) (aCons (eVar 4) aNil)) (eC (.int 1))) aNil))) (gNm 7))
    (sSeq (sAsg (eCallF m__law_spoilt [.inl 0, .inl 1] [] (aCons (eVar 1) (aCons (eCallF m__law_event [.inl 0, .inl 1, .inl 2] [] (aCons (eVar 1) (aCons (eVar 3) (aCons (eC (.int 4)) aNil)))) aNil))) (gNm 8))
    (sSeq (sFor (iSeq (eTup (aCons (eOp oAdd (eOp oAdd (eSl (eVar 5) oNoP (oPart (eVar 7))) (eTup (aCons (eVar 8) aNil))) (eSl (eVar 5) (oPart (eVar 7)) oNoP)) (aCons (eOp oAdd (eVar 5) (eTup (aCons (eVar 8) (aCons (eVar 8) aNil)))) (aCons (eVar 4) (aCons (eVar 8) aNil)))))) (gNm 9)
    (sIf (tVal (eOp (oEq true) (eCallF m__law_heard [.inl 0, .inl 1] [] (aCons (eVar 9) (aCons (eVar 3) aNil))) (eCallF m__law_due [.inl 0, .inl 1] [] (aCons (eVar 9) (aCons (eVar 3) aNil))))) (sRet (eC (.bl false))) sNil))
    (sIf (tVal (eOp (oEq true) (eCallF m__law_heard [.inl 0, .inl 1] [] (aCons (eVar 5) (aCons (eC (.int 1)) aNil))) (eCallF m__law_due [.inl 0, .inl 1] [] (aCons (eVar 5) (aCons (eC (.int 1)) aNil))))) (sRet (eC (.bl false))) sNil))))))))))
    (sSeq (sAsg (eLc (iRange1 (eCallF m__law_draw [.inl 0, .inl 1] [] (aCons (eVar 1) (aCons (eC (.int 5)) aNil)))) (gNm 2) tYes' (eTup (aCons (eCallF m__law_draw [.inl 0, .inl 1] [] (aCons (eVar 1) (aCons (eC (.int 9)) aNil))) (aCons (eCallF m__law_draw [.inl 0, .inl 1] [] (aCons (eVar 1) (aCons (eC (.int 9)) aNil))) (aCons (eCallF m__law_octets [.inl 0, .inl 1] [] (aCons (eVar 1) (aCons (eC (.int 2)) aNil))) aNil)))) [2]) (gNm 10))
    (sSeq (sAsg (eCallF m__law_draw [.inl 0, .inl 1] [] (aCons (eVar 1) (aCons (eC (.int 9)) aNil))) (gNm 11))
    (sSeq (sAsg (eOp oAdd (eLc (iSeq (eVar 10)) (gNm 14) tYes' (eOp oAdd (eTup (aCons (eC (.str ("forge" : Str))) aNil)) (eVar 14)) [14]) (eLc (iRange1 (eCall (one' oLen) (aCons (eVar 10) aNil))) (gNm 7) tYes' (eTup (aCons (eC (.str ("bring" : Str))) (aCons (eOp oAdd (eVar 11) (eVar 7)) aNil))) [7])) (gNm 12))
    (sRet (eAnd (eOp (oEq false) (eCall (one' oRepr) (aCons (eCallF m_script_of [.inl 0, .inl 1] [] (aCons (eVar 10) (aCons (eVar 11) aNil))) aNil)) (eCall (one' oRepr) (aCons (eCall (one' oTuple) (aCons (eVar 12) aNil)) aNil))) (eOp (oEq false) (eCallF m_script_of [.inl 1, .inl 0] [] (aCons (eVar 11) (aCons (eCall (one' oTuple) (aCons (eVar 10) aNil)) aNil))) (eCall (one' oTuple) (aCons (eVar 12) aNil))))))))))
noncomputable def m_law : Fx := runB 15 b_law
theorem sc_law : FnScope N_law ["script"] (defScope (top 43)) := ⟨rfl, rfl, rfl, nd_law, rfl, by decide +kernel, by decide +kernel⟩
theorem sm_law (T : Txt P w K mg) : SimSs P w K mg base { N := N_law, sc := defScope (top 43), k := 10 } (defBody (top 43)) b_law :=
  (simSs_cons (simS_set nd_law rfl (.inr rfl) (.inl rfl) (simE_cal (q := ⟨2, [], [.inl 0, .inl 1], []⟩) rfl (ok__law_heap T) (.head _) (by decide) rfl (simC_pos (simA_cons (simE_var rfl (.inl rfl)) (simA_cons simE_int simA_nil (fun _ => rfl)) (fun _ => rfl)) (aLen_cons (aLen_cons aLen_nil)) (fun _ => rfl) (fun _ _ => rfl))) (fun _ => rfl))
    (simSs_cons (simS_for rfl (simI_range1 rfl T.n_range simE_int (fun _ => rfl)) (simG_name nd_law rfl (.inl rfl) (.inl rfl))
    (simSs_cons (simS_set nd_law rfl (.inr rfl) (.inl rfl) (simE_op ok_add simE_int (simE_cal (q := ⟨2, [], [.inl 0, .inl 1], []⟩) rfl (ok__law_draw T) (.head _) (by decide) rfl (simC_pos (simA_cons (simE_var rfl (.inr (.inl rfl))) (simA_cons simE_int simA_nil (fun _ => rfl)) (fun _ => rfl)) (aLen_cons (aLen_cons aLen_nil)) (fun _ => rfl) (fun _ _ => rfl)))) (fun _ => rfl))
    (simSs_cons (simS_setLc rfl nd_law rfl rfl rfl rfl (by decide +kernel) (simI_range1 rfl T.n_range (simE_cal (q := ⟨2, [], [.inl 0, .inl 1], []⟩) rfl (ok__law_draw T) (.head _) (by decide) rfl (simC_pos (simA_cons (simE_var rfl (.inr (.inl rfl))) (simA_cons simE_int simA_nil (fun _ => rfl)) (fun _ => rfl)) (aLen_cons (aLen_cons aLen_nil)) (fun _ => rfl) (fun _ _ => rfl))) (fun _ => rfl)) (own := [(("part" : Str), 13)]) ⟨rfl, by decide +kernel, by decide +kernel, by decide +kernel, by decide +kernel⟩ (simG_name nd_law rfl (by first | exact .inl rfl | exact .inr rfl) (by first | exact .inl rfl | exact .inr rfl)) simP_nil (simE_cal (q := ⟨3, [], [.inl 0, .inl 1, .inl 2], []⟩) rfl (ok__law_event T) (.head _) (by decide) rfl (simC_pos (simA_cons (simE_var rfl (by first | exact .inl rfl | exact .inr (.inl rfl) | exact .inr (.inr rfl))) (simA_cons (simE_var rfl (by first | exact .inl rfl | exact .inr (.inl rfl) | exact .inr (.inr rfl))) (simA_cons simE_int simA_nil (fun _ => rfl)) (fun _ => rfl)) (fun _ => rfl)) (aLen_cons (aLen_cons (aLen_cons aLen_nil))) (fun _ => rfl) (fun _ _ => rfl))) (fun _ _ => rfl))
    (simSs_cons (simS_set nd_law rfl (.inl rfl) (.inl rfl) (simE_callTy (ok_tuple) rfl T.n_tuple rfl (simA_cons (simE_var rfl (.inl rfl)) simA_nil (fun _ => rfl)) (fun _ => rfl) (fun _ => rfl)) (fun _ => rfl))
    (simSs_cons (simS_set nd_law rfl (.inl rfl) (.inl rfl) (simE_callB (ok_repr rfl) rfl T.n_repr rfl (simA_cons (simE_var rfl (.inl rfl)) simA_nil (fun _ => rfl)) (fun _ => rfl) (fun _ => rfl)) (fun _ => rfl))
    (simSs_cons (simS_if (simT_W (simW_or (simT_cmp ok_isnot (simE_cal (q := ⟨2, [], [.inl 0, .inl 1], []⟩) rfl (ok__law_heard T) (.head _) (by decide) rfl (simC_pos (simA_cons (simE_var rfl (.inl rfl)) (simA_cons (simE_var rfl (.inr (.inl rfl))) simA_nil (fun _ => rfl)) (fun _ => rfl)) (aLen_cons (aLen_cons aLen_nil)) (fun _ => rfl) (fun _ _ => rfl))) simE_non rfl) (simW_or (simT_cmp ok_isnot (simE_cal (q := ⟨2, [], [.inl 0, .inl 1], []⟩) rfl (ok_need_script T) (.head _) (by decide) rfl (simC_pos (simA_cons (simE_var rfl (.inl rfl)) (simA_cons (simE_var rfl (.inr (.inl rfl))) simA_nil (fun _ => rfl)) (fun _ => rfl)) (aLen_cons (aLen_cons aLen_nil)) (fun _ => rfl) (fun _ _ => rfl))) simE_non rfl) (simW_or1 (simT_cmp (ok_ne rfl) (simE_callB (ok_repr rfl) rfl T.n_repr rfl (simA_cons (simE_var rfl (.inl rfl)) simA_nil (fun _ => rfl)) (fun _ => rfl) (fun _ => rfl)) (simE_var rfl (.inl rfl)) rfl))))) (simSs_one (simS_ret simE_bl)) simSs_nil)
    (simSs_cons (simS_set nd_law rfl (.inl rfl) (.inl rfl) (simE_cal (q := ⟨2, [], [.inl 0, .inl 1], []⟩) rfl (ok__law_draw T) (.head _) (by decide) rfl (simC_pos (simA_cons (simE_var rfl (.inr (.inl rfl))) (simA_cons (simE_op ok_add (simE_callB (ok_len) rfl T.n_len rfl (simA_cons (simE_var rfl (.inl rfl)) simA_nil (fun _ => rfl)) (fun _ => rfl) (fun _ => rfl)) simE_int) simA_nil (fun _ => rfl)) (fun _ => rfl)) (aLen_cons (aLen_cons aLen_nil)) (fun _ => rfl) (fun _ _ => rfl))) (fun _ => rfl))
    (simSs_cons (simS_set nd_law rfl (.inl rfl) (.inl rfl) (simE_cal (q := ⟨2, [], [.inl 0, .inl 1], []⟩) rfl (ok__law_spoilt T) (.head _) (by decide) rfl (simC_pos (simA_cons (simE_var rfl (.inr (.inl rfl))) (simA_cons (simE_cal (q := ⟨3, [], [.inl 0, .inl 1, .inl 2], []⟩) rfl (ok__law_event T) (.head _) (by decide) rfl (simC_pos (simA_cons (simE_var rfl (.inr (.inl rfl))) (simA_cons (simE_var rfl (.inr (.inl rfl))) (simA_cons simE_int simA_nil (fun _ => rfl)) (fun _ => rfl)) (fun _ => rfl)) (aLen_cons (aLen_cons (aLen_cons aLen_nil))) (fun _ => rfl) (fun _ _ => rfl))) simA_nil (fun _ => rfl)) (fun _ => rfl)) (aLen_cons (aLen_cons aLen_nil)) (fun _ => rfl) (fun _ _ => rfl))) (fun _ => rfl))
    (simSs_cons (simS_for rfl (simI_seq (simE_tup (simA_cons (simE_op ok_add (simE_op ok_add (simE_sl (simE_var rfl (.inl rfl)) simO_none (simO_some (simE_var rfl (.inl rfl)))) (simE_tup (simA_cons (simE_var rfl (.inl rfl)) simA_nil (fun _ => rfl)))) (simE_sl (simE_var rfl (.inl rfl)) (simO_some (simE_var rfl (.inl rfl))) simO_none)) (simA_cons (simE_op ok_add (simE_var rfl (.inl rfl)) (simE_tup (simA_cons (simE_var rfl (.inl rfl)) (simA_cons (simE_var rfl (.inl rfl)) simA_nil (fun _ => rfl)) (fun _ => rfl)))) (simA_cons (simE_var rfl (.inl rfl)) (simA_cons (simE_var rfl (.inl rfl)) simA_nil (fun _ => rfl)) (fun _ => rfl)) (fun _ => rfl)) (fun _ => rfl)))) (simG_name nd_law rfl (.inl rfl) (.inl rfl))
    (simSs_one (simS_if (simT_cmp (ok_ne rfl) (simE_cal (q := ⟨2, [], [.inl 0, .inl 1], []⟩) rfl (ok__law_heard T) (.head _) (by decide) rfl (simC_pos (simA_cons (simE_var rfl (.inl rfl)) (simA_cons (simE_var rfl (.inr (.inl rfl))) simA_nil (fun _ => rfl)) (fun _ => rfl)) (aLen_cons (aLen_cons aLen_nil)) (fun _ => rfl) (fun _ _ => rfl))) (simE_cal (q := ⟨2, [], [.inl 0, .inl 1], []⟩) rfl (ok__law_due T) (.head _) (by decide) rfl (simC_pos (simA_cons (simE_var rfl (.inl rfl)) (simA_cons (simE_var rfl (.inr (.inl rfl))) simA_nil (fun _ => rfl)) (fun _ => rfl)) (aLen_cons (aLen_cons aLen_nil)) (fun _ => rfl) (fun _ _ => rfl))) rfl) (simSs_one (simS_ret simE_bl)) simSs_nil)) (fun _ _ => rfl))
    (simSs_one (simS_if (simT_cmp (ok_ne rfl) (simE_cal (q := ⟨2, [], [.inl 0, .inl 1], []⟩) rfl (ok__law_heard T) (.head _) (by decide) rfl (simC_pos (simA_cons (simE_var rfl (.inl rfl)) (simA_cons simE_int simA_nil (fun _ => rfl)) (fun _ => rfl)) (aLen_cons (aLen_cons aLen_nil)) (fun _ => rfl) (fun _ _ => rfl))) (simE_cal (q := ⟨2, [], [.inl 0, .inl 1], []⟩) rfl (ok__law_due T) (.head _) (by decide) rfl (simC_pos (simA_cons (simE_var rfl (.inl rfl)) (simA_cons simE_int simA_nil (fun _ => rfl)) (fun _ => rfl)) (aLen_cons (aLen_cons aLen_nil)) (fun _ => rfl) (fun _ _ => rfl))) rfl) (simSs_one (simS_ret simE_bl)) simSs_nil)))))))))) (fun _ _ => rfl))
    (simSs_cons (simS_setLc rfl nd_law rfl rfl rfl rfl (by decide +kernel) (simI_range1 rfl T.n_range (simE_cal (q := ⟨2, [], [.inl 0, .inl 1], []⟩) rfl (ok__law_draw T) (.head _) (by decide) rfl (simC_pos (simA_cons (simE_var rfl (.inr (.inl rfl))) (simA_cons simE_int simA_nil (fun _ => rfl)) (fun _ => rfl)) (aLen_cons (aLen_cons aLen_nil)) (fun _ => rfl) (fun _ _ => rfl))) (fun _ => rfl)) (own := [(("turn" : Str), 2)]) ⟨rfl, by decide +kernel, by decide +kernel, by decide +kernel, by decide +kernel⟩ (simG_name nd_law rfl (by first | exact .inl rfl | exact .inr rfl) (by first | exact .inl rfl | exact .inr rfl)) simP_nil (simE_tup (simA_cons (simE_cal (q := ⟨2, [], [.inl 0, .inl 1], []⟩) rfl (ok__law_draw T) (.head _) (by decide) rfl (simC_pos (simA_cons (simE_var rfl (by first | exact .inl rfl | exact .inr (.inl rfl) | exact .inr (.inr rfl))) (simA_cons simE_int simA_nil (fun _ => rfl)) (fun _ => rfl)) (aLen_cons (aLen_cons aLen_nil)) (fun _ => rfl) (fun _ _ => rfl))) (simA_cons (simE_cal (q := ⟨2, [], [.inl 0, .inl 1], []⟩) rfl (ok__law_draw T) (.head _) (by decide) rfl (simC_pos (simA_cons (simE_var rfl (by first | exact .inl rfl | exact .inr (.inl rfl) | exact .inr (.inr rfl))) (simA_cons simE_int simA_nil (fun _ => rfl)) (fun _ => rfl)) (aLen_cons (aLen_cons aLen_nil)) (fun _ => rfl) (fun _ _ => rfl))) (simA_cons (simE_cal (q := ⟨2, [], [.inl 0, .inl 1], []⟩) rfl (ok__law_octets T) (.head _) (by decide) rfl (simC_pos (simA_cons (simE_var rfl (by first | exact .inl rfl | exact .inr (.inl rfl) | exact .inr (.inr rfl))) (simA_cons simE_int simA_nil (fun _ => rfl)) (fun _ => rfl)) (aLen_cons (aLen_cons aLen_nil)) (fun _ => rfl) (fun _ _ => rfl))) simA_nil (fun _ => rfl)) (fun _ => rfl)) (fun _ => rfl))) (fun _ _ => rfl))
    (simSs_cons (simS_set nd_law rfl (.inr rfl) (.inl rfl) (simE_cal (q := ⟨2, [], [.inl 0, .inl 1], []⟩) rfl (ok__law_draw T) (.head _) (by decide) rfl (simC_pos (simA_cons (simE_var rfl (.inr (.inl rfl))) (simA_cons simE_int simA_nil (fun _ => rfl)) (fun _ => rfl)) (aLen_cons (aLen_cons aLen_nil)) (fun _ => rfl) (fun _ _ => rfl))) (fun _ => rfl))
    (simSs_cons (simS_set nd_law rfl (.inl rfl) (.inl rfl) (simE_op ok_add (simE_lc rfl nd_law (simI_seq (simE_var rfl (.inl rfl))) (own := [(("arrival" : Str), 14)]) ⟨rfl, by decide +kernel, by decide +kernel, by decide +kernel, by decide +kernel⟩ (simG_name nd_law rfl (by first | exact .inl rfl | exact .inr rfl) (by first | exact .inl rfl | exact .inr rfl)) simP_nil (simE_op ok_add (simE_tup (simA_cons simE_str simA_nil (fun _ => rfl))) (simE_var rfl (by first | exact .inl rfl | exact .inr (.inl rfl) | exact .inr (.inr rfl)))) (fun _ _ => rfl)) (simE_lc rfl nd_law (simI_range1 rfl T.n_range (simE_callB (ok_len) rfl T.n_len rfl (simA_cons (simE_var rfl (.inl rfl)) simA_nil (fun _ => rfl)) (fun _ => rfl) (fun _ => rfl)) (fun _ => rfl)) (own := [(("at" : Str), 7)]) ⟨rfl, by decide +kernel, by decide +kernel, by decide +kernel, by decide +kernel⟩ (simG_name nd_law rfl (by first | exact .inl rfl | exact .inr rfl) (by first | exact .inl rfl | exact .inr rfl)) simP_nil (simE_tup (simA_cons simE_str (simA_cons (simE_op ok_add (simE_var rfl (by first | exact .inl rfl | exact .inr (.inl rfl) | exact .inr (.inr rfl))) (simE_var rfl (by first | exact .inl rfl | exact .inr (.inl rfl) | exact .inr (.inr rfl)))) simA_nil (fun _ => rfl)) (fun _ => rfl))) (fun _ _ => rfl))) (fun _ => rfl))
    (simSs_one (simS_ret (simE_and (simE_cmp (ok_eq rfl) (simE_callB (ok_repr rfl) rfl T.n_repr rfl (simA_cons (simE_cal (q := ⟨2, [], [.inl 0, .inl 1], []⟩) rfl (ok_script_of T) (.head _) (by decide) rfl (simC_pos (simA_cons (simE_var rfl (.inl rfl)) (simA_cons (simE_var rfl (.inr (.inl rfl))) simA_nil (fun _ => rfl)) (fun _ => rfl)) (aLen_cons (aLen_cons aLen_nil)) (fun _ => rfl) (fun _ _ => rfl))) simA_nil (fun _ => rfl)) (fun _ => rfl) (fun _ => rfl)) (simE_callB (ok_repr rfl) rfl T.n_repr rfl (simA_cons (simE_callTy (ok_tuple) rfl T.n_tuple rfl (simA_cons (simE_var rfl (.inl rfl)) simA_nil (fun _ => rfl)) (fun _ => rfl) (fun _ => rfl)) simA_nil (fun _ => rfl)) (fun _ => rfl) (fun _ => rfl)) rfl) (simE_one (simE_cmp (ok_eq rfl) (simE_cal (q := ⟨0, [("made" : Str), ("arrivals" : Str)], [.inl 1, .inl 0], []⟩) rfl (ok_script_of T) (.tail _ (.head _)) (by decide) rfl (simC_kw0 (simK_cons (simE_var rfl (.inr (.inl rfl))) (simK_cons (simE_callTy (ok_tuple) rfl T.n_tuple rfl (simA_cons (simE_var rfl (.inl rfl)) simA_nil (fun _ => rfl)) (fun _ => rfl) (fun _ => rfl)) simK_nil)) (aLen_cons (aLen_cons aLen_nil)) (fun _ _ => rfl) (fun _ _ => rfl) (fun _ _ => rfl))) (simE_callTy (ok_tuple) rfl T.n_tuple rfl (simA_cons (simE_var rfl (.inl rfl)) simA_nil (fun _ => rfl)) (fun _ => rfl) (fun _ => rfl)) rfl))))))))))
theorem ok_law (T : Txt P w K mg) : Cal P w K mg base 11 ("law" : Str) [("script" : Str)] m_law [] := cal0 T.d_law sc_law (sm_law T) ways_nil
end
end Lw

/-! k73, the plain law: what the program looks at. -/
namespace Lw
open PySem L2 Sm
def dInt : PyData → Bool
  | .int _ => true
  | _ => false
def dBel (b : Int) : PyData → Bool
  | .int i => decide (0 ≤ i) && decide (i < b)
  | _ => false
def dNum : PyData → Bool
  | .int i => decide (0 ≤ i)
  | _ => false
def dOct : PyData → Bool
  | .tuple ds => ds.all (dBel 256)
  | _ => false
def dLet : PyData → Bool
  | .tuple [x, y, .tuple ds] => dBel 4294967296 x && dBel 4294967296 y && ds.all (dBel 256) && decide (ds.length ≤ 65535)
  | _ => false
section
variable {b : Nat} {st : Sto} {d : PyData} {x : Val}
theorem is_integer_ok (h : RD b st d x) : m_is_integer [x] st = .ok (.bl (dInt d)) st := by
  have e : dInt d = (isIntD d && !isBoolD d) := by cases d <;> rfl
  simp [m_is_integer, runB, b_is_integer, h.getV, isi_int h, isi_bool h, e]
  cases isIntD d <;> rfl
theorem RD.int_of {i : Int} (h : RD b st (.int i) x) : x = .int i := by rw [RD] at h; exact h
theorem dInt_of (e : dInt d = true) : ∃ i, d = .int i := by cases d <;> first | (simp [dInt] at e; done) | exact ⟨_, rfl⟩
theorem is_number_ok (h : RD b st d x) : m_is_number [x] st = .ok (.bl (dNum d)) st := by
  have q := is_integer_ok h
  cases c : dInt d with
  | true =>
    obtain ⟨i, rfl⟩ := dInt_of c
    have := RD.int_of h
    subst this
    simp [m_is_number, runB, b_is_number, q, c, dNum, arr, oInt_eq]
  | false =>
    have e : dNum d = false := by cases d <;> first | rfl | (simp [dInt] at c)
    simp [m_is_number, runB, b_is_number, h.getV, q, c, e, arr]
theorem is_below_ok {z : Int} (h : RD b st d x) : m_is_below [x, .int z] st = .ok (.bl (dBel z d)) st := by
  have q := is_integer_ok h
  cases c : dInt d with
  | true =>
    obtain ⟨i, rfl⟩ := dInt_of c
    have := RD.int_of h
    subst this
    by_cases h1 : 0 ≤ i <;> simp [m_is_below, runB, b_is_below, q, c, dBel, arr, oInt_eq, h1]
  | false =>
    have e : dBel z d = false := by cases d <;> first | rfl | (simp [dInt] at c)
    simp [m_is_below, runB, b_is_below, h.getV, q, c, e, arr]
theorem is_text_ok (h : RD b st d x) : m_is_text [x] st = .ok (.bl (isStrD d)) st := by
  simp [m_is_text, runB, b_is_text, h.getV, isi_str h]
def dTupN (k : Nat) : PyData → Bool
  | .tuple ds => decide (ds.length = k)
  | _ => false
theorem is_tuple_of_ok {k : Nat} {z : Int} (hz : z = (k : Int)) (h : RD b st d x) : m_is_tuple_of [x, .int z] st = .ok (.bl (dTupN k d)) st := by
  subst hz
  cases d with
  | tuple ds =>
    have e : ((ds.length : Int) = (k : Int)) = (ds.length = k) := propext ⟨fun z => by omega, fun z => by omega⟩
    simp [m_is_tuple_of, runB, b_is_tuple_of, h.getV, isi_tup h, isTupD, len_tup h, oEq_int, dTupN, e]
  | _ => simp [m_is_tuple_of, runB, b_is_tuple_of, h.getV, isi_tup h, isTupD, dTupN]
end
/-! ### wrong_place -/
def enumF : Nat → List Val → List Val
  | _, [] => []
  | k, x :: r => .tup [.int (k : Int), x] :: enumF (k + 1) r
theorem enumF_range (xs : List Val) (k : Nat) : enumF k xs = (List.range xs.length).map fun (i : Nat) => Val.tup [.int ((k + i : Nat) : Int), xs.getD i .non] := by
  induction xs generalizing k with
  | nil => rfl
  | cons x r ih =>
    rw [List.length_cons, List.range_succ_eq_map, List.map_cons, List.map_map, enumF, ih]
    congr 1
    refine List.map_congr_left fun i _ => ?_
    simp only [Function.comp]
    congr 3
    · congr 1
      omega
theorem enumV_eq (xs : List Val) : enumV xs = enumF 0 xs := by
  rw [enumF_range]
  unfold enumV
  refine List.map_congr_left fun i _ => by simp
/-- the first place whose thing is not so -/
def firstF (p : PyData → Bool) : Nat → List PyData → Option Nat
  | _, [] => none
  | k, d :: r => if p d = false then some k else firstF p (k + 1) r
theorem firstF_none (p : PyData → Bool) : ∀ (ds : List PyData) (k : Nat), firstF p k ds = none ↔ ds.all p = true
  | [], k => by simp [firstF]
  | d :: r, k => by
    rw [firstF, List.all_cons]
    cases p d with
    | false => simp
    | true => simp [firstF_none p r (k + 1)]
theorem wp_loop {b : Nat} {st : Sto} {v : Val} {D : Dx} : ∀ (ds : List PyData) (xs : List Val) (k : Nat) (e2 e3 : Option Val), RDs b st ds xs → (∀ a, firstF (dBel 256) k ds = some a → D.rt (.int a) st) → (firstF (dBel 256) k ds = none → ∀ e2 e3, D.nx [some v, some .non, e2, e3] st) →
    WpS (forL [] (gTup' 2 (gCons' (gNm 2) (gCons' (gNm 3) gNil'))) (sIf (tOr' (tNot' (tVal (eCallF m_is_below [.inl 0, .inl 1] [] (aCons (eVar 3) (aCons (eC (.int 256)) aNil))))) (tVal (eOp (oEq false) (eVar 2) (eVar 1)))) (sRet (eVar 2)) sNil) (enumF k xs) [some v, some .non, e2, e3] st) D
  | [], xs, k, e2, e3, hp, _, h => by
    rw [RDs] at hp
    subst hp
    simpa [enumF, forL, WpS_nx] using h rfl e2 e3
  | d :: r, xs, k, e2, e3, hp, h1, h2 => by
    rw [RDs] at hp
    obtain ⟨x, t, rfl, hx, hr⟩ := hp
    have body : (sIf (tOr' (tNot' (tVal (eCallF m_is_below [.inl 0, .inl 1] [] (aCons (eVar 3) (aCons (eC (.int 256)) aNil))))) (tVal (eOp (oEq false) (eVar 2) (eVar 1)))) (sRet (eVar 2)) sNil) [some v, some .non, some (.int (k : Int)), some x] st
        = if dBel 256 d = false then .rt (.int k) st else .nx [some v, some .non, some (.int (k : Int)), some x] st := by
      cases hb : dBel 256 d with
      | false => simp [hx.getV, arr, is_below_ok hx, hb]
      | true => simp [hx.getV, arr, is_below_ok hx, hb, oEq_int_non]
    unfold enumF forL
    rw [if_pos (by simp)]
    have g1 : gTup' 2 (gCons' (gNm 2) (gCons' (gNm 3) gNil')) (.tup [.int (k : Int), x]) [some v, some .non, e2, e3] = some [some v, some .non, some (.int (k : Int)), some x] := by
      simp [gTup', gCons', gNm, gNil']
    rw [g1]
    unfold firstF at h1 h2
    by_cases hc : dBel 256 d = false
    · rw [if_pos hc] at h1 body
      simp only [onG, body]
      exact h1 k rfl
    · rw [if_neg hc] at h1 h2 body
      simp only [onG, body]
      exact wp_loop r t (k + 1) _ _ hr h1 h2
section
variable {b : Nat} {st : Sto} {d : PyData} {x : Val}
theorem wrong_place_ok {ds : List PyData} (h : RD b st (.tuple ds) x) : m_wrong_place [x, .non] st = .ok (match firstF (dBel 256) 0 ds with | some a => .int a | none => .non) st := by
  have hh : Wp (m_wrong_place [x, .non] st) (fun a s => a = (match firstF (dBel 256) 0 ds with | some a => .int a | none => .non) ∧ s = st) noX := by
    rw [RD] at h
    obtain ⟨xs, rfl, h⟩ := h
    unfold m_wrong_place b_wrong_place
    rw [Wp_run, WpS_seq, W_for]
    simp only [iEnum', eVar_eq, List.map_cons, List.map_nil, List.length_cons, List.length_nil, List.cons_append, List.nil_append, List.replicate, List.getElem?_cons_zero, getV_tup, R.bind_ok, Wp_ok, enumV_eq]
    refine wp_loop ds xs 0 none none h (fun a ha => ?_) fun hn e2 e3 => ?_
    · simp [ha]
    · simp [hn, W_ret, W_if, W_tAnd, W_tVal, W_op, W_var, W_C, Wp_ok, oIsN, WpS_rt]
  exact Wp_eq hh
theorem is_octets_ok (h : RD b st d x) : m_is_octets [x] st = .ok (.bl (dOct d)) st := by
  cases d with
  | tuple ds =>
    have w := wrong_place_ok h
    cases q : firstF (dBel 256) 0 ds with
    | none =>
      rw [q] at w
      have := (firstF_none _ _ _).mp q
      simp [m_is_octets, runB, b_is_octets, h.getV, isi_tup h, isTupD, arr, w, oIsN, dOct, this]
    | some a =>
      rw [q] at w
      have : ds.all (dBel 256) = false := by
        cases z : ds.all (dBel 256) with
        | false => rfl
        | true => rw [(firstF_none _ _ 0).mpr z] at q; cases q
      simp [m_is_octets, runB, b_is_octets, h.getV, isi_tup h, isTupD, arr, w, oIsN, dOct, this]
  | _ => simp [m_is_octets, runB, b_is_octets, h.getV, isi_tup h, isTupD, dOct]
end
end Lw

/-! k73, the plain law: events, as the program looks at them. -/
namespace Lw
open PySem L2 Sm
theorem atI_two {α : Type} (x y z : α) (xs : List α) : atI (x :: y :: z :: xs) 2 = some z := atI_nat (j := 2) rfl
theorem atI_three {α : Type} (x y z u : α) (xs : List α) : atI (x :: y :: z :: u :: xs) 3 = some u := atI_nat (j := 3) rfl
theorem ixt0 (x : Val) (xs : List Val) (st : Sto) : oIx (.tup (x :: xs)) (.int 0) st = .ok x st := by simp [oIx, seqOf, atI_zero]
theorem ixt1 (x y : Val) (xs : List Val) (st : Sto) : oIx (.tup (x :: y :: xs)) (.int 1) st = .ok y st := by simp [oIx, seqOf, atI_one]
theorem ixt2 (x y z : Val) (xs : List Val) (st : Sto) : oIx (.tup (x :: y :: z :: xs)) (.int 2) st = .ok z st := by simp [oIx, seqOf, atI_two]
theorem ixt3 (x y z u : Val) (xs : List Val) (st : Sto) : oIx (.tup (x :: y :: z :: u :: xs)) (.int 3) st = .ok u st := by simp [oIx, seqOf, atI_three]
theorem lent (xs : List Val) (st : Sto) : oLen (.tup xs) st = .ok (.int xs.length) st := rfl
theorem rng2 (env : Sm.Env) (st : Sto) : iRange1 (eC (.int 2)) env st = .ok ([.int 0, .int 1], []) st := iRange1_ok (z := 2) (k := 2) rfl rfl (by decide)
section
variable {b : Nat} {st : Sto} {d : PyData} {x : Val}
theorem RDs.c0 {xs : List Val} (h : RDs b st [] xs) : xs = [] := by rw [RDs] at h; exact h
theorem RDs.uncons {d : PyData} {ds : List PyData} {xs : List Val} (h : RDs b st (d :: ds) xs) : ∃ x r, xs = x :: r ∧ RD b st d x ∧ RDs b st ds r := by rw [RDs] at h; exact h
theorem need_letter_ok (h : RD b st d x) : if dLet d = true then m_need_letter [x] st = .ok .non st else ∃ v, m_need_letter [x] st = .err ("InvalidLetter", [("at", v)]) st := by
  have q := is_tuple_of_ok (k := 3) (z := 3) rfl h
  cases c : dTupN 3 d with
  | false =>
    have e : dLet d = false := by
      unfold dLet
      split
      · simp [dTupN] at c
      · rfl
    rw [if_neg (by rw [e]; simp)]
    exact ⟨.int (-1), by simp [m_need_letter, runB, b_need_letter, h.getV, arr, q, c, sSeq, oNeg, sRaise]⟩
  | true =>
    have e : ∃ d0 d1 d2, d = .tuple [d0, d1, d2] := by
      cases d with
      | tuple ds =>
        simp [dTupN] at c
        match ds, c with
        | [d0, d1, d2], _ => exact ⟨d0, d1, d2, rfl⟩
      | _ => simp [dTupN] at c
    obtain ⟨d0, d1, d2, rfl⟩ := e
    obtain ⟨xs, rfl, hs⟩ := RD.tup_iff.mp h
    obtain ⟨x0, r, rfl, h0, hs⟩ := RDs.uncons hs
    obtain ⟨x1, r, rfl, h1, hs⟩ := RDs.uncons hs
    obtain ⟨x2, r, rfl, h2, hs⟩ := RDs.uncons hs
    have := RDs.c0 hs
    subst this
    have b0 := is_below_ok (z := 4294967296) h0
    have b1 := is_below_ok (z := 4294967296) h1
    have o2 := is_octets_ok h2
    have eL : dLet (.tuple [d0, d1, d2]) = (dBel 4294967296 d0 && dBel 4294967296 d1 && dOct d2 && (match d2 with | .tuple ds => decide (ds.length ≤ 65535) | _ => true)) := by
      cases d2 <;> simp [dLet, dOct]
    cases c0 : dBel 4294967296 d0 with
    | false =>
      rw [if_neg (by rw [eL, c0]; simp)]
      exact ⟨.int 0, by simp [m_need_letter, runB, b_need_letter, arr, q, c, sSeq, rng2, forL, gNm, ixt0, ixt1, ixt2, b0, c0, sRaise]⟩
    | true =>
      cases c1 : dBel 4294967296 d1 with
      | false =>
        rw [if_neg (by rw [eL, c1]; simp)]
        exact ⟨.int 1, by simp [m_need_letter, runB, b_need_letter, arr, q, c, sSeq, rng2, forL, gNm, ixt0, ixt1, ixt2, b0, c0, b1, c1, sRaise]⟩
      | true =>
        cases c2 : dOct d2 with
        | false =>
          rw [if_neg (by rw [eL, c2]; simp)]
          exact ⟨.int 2, by simp [m_need_letter, runB, b_need_letter, arr, q, c, sSeq, rng2, forL, gNm, ixt0, ixt1, ixt2, b0, c0, b1, c1, o2, c2, sRaise]⟩
        | true =>
          cases d2 with
          | tuple ds =>
            have l2 := len_tup h2
            by_cases hl : ds.length ≤ 65535
            · rw [if_pos (by rw [eL, c0, c1, c2]; simp [hl])]
              have hl' : ¬ (65535 < (ds.length : Int)) := by omega
              simp [m_need_letter, runB, b_need_letter, arr, q, c, sSeq, rng2, forL, gNm, ixt0, ixt1, ixt2, b0, c0, b1, c1, o2, c2, l2, hl', oInt_eq]
            · rw [if_neg (by rw [eL, c0, c1, c2]; simp [hl])]
              have hl' : (65535 < (ds.length : Int)) := by omega
              exact ⟨.int 2, by simp [m_need_letter, runB, b_need_letter, arr, q, c, sSeq, rng2, forL, gNm, ixt0, ixt1, ixt2, b0, c0, b1, c1, o2, c2, l2, hl', oInt_eq, sRaise]⟩
          | _ => simp [dOct] at c2
theorem ex_il : T_exm "InvalidLetter" "InvalidLetter" = some true := by decide +kernel
theorem is_letter_ok (h : RD b st d x) : m_is_letter [x] st = .ok (.bl (dLet d)) st := by
  have q := need_letter_ok h
  cases c : dLet d with
  | true =>
    rw [c, if_pos rfl] at q
    simp [m_is_letter, runB, b_is_letter, sSeq, sTry, h.getV, arr, q]
  | false =>
    rw [c, if_neg (by simp)] at q
    obtain ⟨v, q⟩ := q
    simp [m_is_letter, runB, b_is_letter, sSeq, sTry, h.getV, arr, q, clauses, ex_il, noEr]
end
/-! ### events -/
def dBy : PyData → Bool
  | .int i => decide (0 < i) && decide (i < 256)
  | _ => false
def dPut (many : Int) : List PyData → Bool
  | [e, l] => dBel many e && dLet l
  | _ => false
def dOne : List PyData → Bool
  | [n] => dNum n
  | _ => false
def dBend : List PyData → Bool
  | [n, a, v] => dNum n && dNum a && dBy v
  | _ => false
def dForge : List PyData → Bool
  | [n, a, v] => dNum n && dNum a && dOct v
  | _ => false
def dAgain : List PyData → Bool
  | [n, a, v] => dNum n && dNum a && dNum v
  | _ => false
def dMove (many : Int) : List PyData → Bool
  | [e, a] => dBel many e && dNum a
  | _ => false
section
variable {b : Nat} {st : Sto}
theorem RDs.one {d0 : PyData} {xs : List Val} (h : RDs b st [d0] xs) : ∃ x0, xs = [x0] ∧ RD b st d0 x0 := by
  obtain ⟨x0, r, rfl, h0, hs⟩ := RDs.uncons h
  have := RDs.c0 hs
  subst this
  exact ⟨x0, rfl, h0⟩
theorem RDs.two {d0 d1 : PyData} {xs : List Val} (h : RDs b st [d0, d1] xs) : ∃ x0 x1, xs = [x0, x1] ∧ RD b st d0 x0 ∧ RD b st d1 x1 := by
  obtain ⟨x0, r, rfl, h0, hs⟩ := RDs.uncons h
  obtain ⟨x1, rfl, h1⟩ := RDs.one hs
  exact ⟨x0, x1, rfl, h0, h1⟩
theorem RDs.three {d0 d1 d2 : PyData} {xs : List Val} (h : RDs b st [d0, d1, d2] xs) : ∃ x0 x1 x2, xs = [x0, x1, x2] ∧ RD b st d0 x0 ∧ RD b st d1 x1 ∧ RD b st d2 x2 := by
  obtain ⟨x0, r, rfl, h0, hs⟩ := RDs.uncons h
  obtain ⟨x1, x2, rfl, h1, h2⟩ := RDs.two hs
  exact ⟨x0, x1, x2, rfl, h0, h1, h2⟩
variable {ps : List PyData} {xs : List Val} {many : Int}
theorem len1 (c : ps.length = 1) : ∃ a, ps = [a] := by
  match ps, c with
  | [a], _ => exact ⟨a, rfl⟩
theorem len2 (c : ps.length = 2) : ∃ a b, ps = [a, b] := by
  match ps, c with
  | [a, b], _ => exact ⟨a, b, rfl⟩
theorem len3 (c : ps.length = 3) : ∃ a b c, ps = [a, b, c] := by
  match ps, c with
  | [a, b, d], _ => exact ⟨a, b, d, rfl⟩
theorem is_put_ok (h : RDs b st ps xs) : m_is_put [.tup xs, .int many] st = .ok (.bl (dPut many ps)) st := by
  have hl := h.length
  by_cases c : ps.length = 2
  · obtain ⟨d0, d1, rfl⟩ := len2 c
    obtain ⟨x0, x1, rfl, h0, h1⟩ := RDs.two h
    have b0 := is_below_ok (z := many) h0
    have b1 := is_letter_ok h1
    cases c0 : dBel many d0 <;> simp [m_is_put, runB, b_is_put, arr, one', lent, oEq_int, ixt0, ixt1, b0, b1, c0, dPut]
  · have e : dPut many ps = false := by
      unfold dPut
      split
      · simp at c
      · rfl
    have c' : decide ((xs.length : Int) = 2) = false := decide_eq_false (by omega)
    simp [m_is_put, runB, b_is_put, arr, one', lent, oEq_int, c', e]
theorem is_numbered_ok {v : Val} (h : RDs b st ps xs) (hv : okV v = true) : m_is_numbered [.tup xs, v] st = .ok (.bl (dOne ps)) st := by
  have hl := h.length
  by_cases c : ps.length = 1
  · obtain ⟨d0, rfl⟩ := len1 c
    obtain ⟨x0, rfl, h0⟩ := RDs.one h
    have b0 := is_number_ok h0
    simp [m_is_numbered, runB, b_is_numbered, arr, one', lent, oEq_int, ixt0, b0, dOne]
  · have e : dOne ps = false := by
      unfold dOne
      split
      · simp at c
      · rfl
    have c' : decide ((xs.length : Int) = 1) = false := decide_eq_false (by omega)
    simp [m_is_numbered, runB, b_is_numbered, arr, one', lent, oEq_int, c', e]
theorem is_move_ok (h : RDs b st ps xs) : m_is_move [.tup xs, .int many] st = .ok (.bl (dMove many ps)) st := by
  have hl := h.length
  by_cases c : ps.length = 2
  · obtain ⟨d0, d1, rfl⟩ := len2 c
    obtain ⟨x0, x1, rfl, h0, h1⟩ := RDs.two h
    have b0 := is_below_ok (z := many) h0
    have b1 := is_number_ok h1
    cases c0 : dBel many d0 <;> simp [m_is_move, runB, b_is_move, arr, one', lent, oEq_int, ixt0, ixt1, b0, b1, c0, dMove]
  · have e : dMove many ps = false := by
      unfold dMove
      split
      · simp at c
      · rfl
    have c' : decide ((xs.length : Int) = 2) = false := decide_eq_false (by omega)
    simp [m_is_move, runB, b_is_move, arr, one', lent, oEq_int, c', e]
theorem is_forge_ok {v : Val} (h : RDs b st ps xs) : m_is_forge [.tup xs, v] st = .ok (.bl (dForge ps)) st := by
  have hl := h.length
  by_cases c : ps.length = 3
  · obtain ⟨d0, d1, d2, rfl⟩ := len3 c
    obtain ⟨x0, x1, x2, rfl, h0, h1, h2⟩ := RDs.three h
    have b0 := is_number_ok h0
    have b1 := is_number_ok h1
    have b2 := is_octets_ok h2
    cases c0 : dNum d0 <;> cases c1 : dNum d1 <;> simp [m_is_forge, runB, b_is_forge, arr, one', lent, oEq_int, ixt0, ixt1, ixt2, b0, b1, b2, c0, c1, dForge]
  · have e : dForge ps = false := by
      unfold dForge
      split
      · simp at c
      · rfl
    have c' : decide ((xs.length : Int) = 3) = false := decide_eq_false (by omega)
    simp [m_is_forge, runB, b_is_forge, arr, one', lent, oEq_int, c', e]
theorem is_bend_ok {v : Val} (h : RDs b st ps xs) : m_is_bend [.tup xs, v] st = .ok (.bl (dBend ps)) st := by
  have hl := h.length
  by_cases c : ps.length = 3
  · obtain ⟨d0, d1, d2, rfl⟩ := len3 c
    obtain ⟨x0, x1, x2, rfl, h0, h1, h2⟩ := RDs.three h
    have b0 := is_number_ok h0
    have b1 := is_number_ok h1
    have b2 := is_below_ok (z := 256) h2
    cases c2 : dBel 256 d2 with
    | false =>
      have e : dBy d2 = false := by
        cases d2 <;> first | rfl | skip
        rename_i i
        simp [dBel] at c2
        simp [dBy]
        omega
      cases c0 : dNum d0 <;> cases c1 : dNum d1 <;> simp [m_is_bend, runB, b_is_bend, arr, sSeq, one', lent, oEq_int, ixt0, ixt1, ixt2, b0, b1, b2, c0, c1, c2, dBend, e]
    | true =>
      cases d2 with
      | int i =>
        have := RD.int_of h2
        subst this
        have e : dBy (.int i) = decide (0 < i) := by simp [dBel] at c2; simp [dBy, c2]
        cases c0 : dNum d0 <;> cases c1 : dNum d1 <;> simp [m_is_bend, runB, b_is_bend, arr, sSeq, one', lent, oEq_int, oInt_eq, ixt0, ixt1, ixt2, b0, b1, b2, c0, c1, c2, dBend, e]
      | _ => simp [dBel] at c2
  · have e : dBend ps = false := by
      unfold dBend
      split
      · simp at c
      · rfl
    have c' : decide ((xs.length : Int) = 3) = false := decide_eq_false (by omega)
    simp [m_is_bend, runB, b_is_bend, arr, sSeq, one', lent, oEq_int, c', e]
/-- [is_number(part) for part in parts] -/
theorem lc_three {T : Tx} {M : Ex} {env : Sm.Env} {vs : List Nat} {i : Nat} {a : Ex} {x0 x1 x2 : Val} {b0 b1 b2 : Val} (ha : a env st = .ok (.tup [x0, x1, x2]) st) (hT : T = tYes')
    (h0 : ∀ s, M ((wipeE env vs).set i (some x0)) (st ++ [s]) = .ok b0 (st ++ [s])) (h1 : ∀ s, M ((wipeE env vs).set i (some x1)) (st ++ [s]) = .ok b1 (st ++ [s])) (h2 : ∀ s, M ((wipeE env vs).set i (some x2)) (st ++ [s]) = .ok b2 (st ++ [s])) :
    eLc (iSeq a) (gNm i) T M vs env st = .ok (.loc st.length) (st ++ [Ob.lst [b0, b1, b2]]) := by
  subst hT
  have e1 : ∀ o : Ob, (st ++ [o])[st.length]? = some o := fun o => at_new
  have e2 : ∀ o u : Ob, (st ++ [o]).set st.length u = st ++ [u] := fun o u => by rw [List.set_append_right _ _ (Nat.le_refl _)]; simp
  simp [eLc_eq, iSeq, ha, lcL, gNm, tYes', noErR, h0, h1, h2, e1, e2]
theorem is_again_ok {v : Val} (h : RDs b st ps xs) : ∃ t, m_is_again [.tup xs, v] st = .ok (.bl (dAgain ps)) (st ++ t) := by
  have hl := h.length
  by_cases c : ps.length = 3
  · obtain ⟨d0, d1, d2, rfl⟩ := len3 c
    obtain ⟨x0, x1, x2, rfl, h0, h1, h2⟩ := RDs.three h
    have b0 : ∀ s, _ := fun s => is_number_ok (h0.pre (pre_app (st := st) [s]))
    have b1 : ∀ s, _ := fun s => is_number_ok (h1.pre (pre_app (st := st) [s]))
    have b2 : ∀ s, _ := fun s => is_number_ok (h2.pre (pre_app (st := st) [s]))
    have g0 := h0.getV
    have g1 := h1.getV
    have g2 := h2.getV
    have lc := lc_three (st := st) (T := tYes') (M := eCallF m_is_number [.inl 0] [] (aCons (eVar 2) aNil)) (env := [some (.tup [x0, x1, x2]), some v, none]) (vs := [2]) (i := 2) (a := eVar 0) (x0 := x0) (x1 := x1) (x2 := x2) rfl rfl
      (b0 := .bl (dNum d0)) (b1 := .bl (dNum d1)) (b2 := .bl (dNum d2)) (fun s => by simp [wipeE, arr, g0, b0]) (fun s => by simp [wipeE, arr, g1, b1]) (fun s => by simp [wipeE, arr, g2, b2])
    have al : ∀ s : Sto, s = st ++ [Ob.lst [.bl (dNum d0), .bl (dNum d1), .bl (dNum d2)]] → oAll (.loc st.length) s = .ok (.bl (dAgain [d0, d1, d2])) s := fun s hs => by
      subst hs
      simp [oAll, lstOf, bls, dAgain, Bool.and_assoc]
    refine ⟨[Ob.lst [.bl (dNum d0), .bl (dNum d1), .bl (dNum d2)]], ?_⟩
    simp [-eLc_eq, m_is_again, runB, b_is_again, one', lent, oEq_int, lc, al]
  · have e : dAgain ps = false := by
      unfold dAgain
      split
      · simp at c
      · rfl
    have c' : decide ((xs.length : Int) = 3) = false := decide_eq_false (by omega)
    exact ⟨[], by simp [-eLc_eq, m_is_again, runB, b_is_again, arr, one', lent, oEq_int, c', e]⟩
end
end Lw

/-! k73, the plain law: is_event, need_script. -/
namespace Lw
open PySem L2 Sm
theorem eSl_O (o : Ex) (lo hi : Ox) (env : Sm.Env) (st : Sto) : eSl o lo hi env st = (o env st).bind fun x s => (lo env s).bind fun l s => (hi env s).bind fun h s => slO x l h s := rfl
noncomputable abbrev FT : FTab := [(("is_put" : Str), m_is_put), (("is_numbered" : Str), m_is_numbered), (("is_bend" : Str), m_is_bend), (("is_forge" : Str), m_is_forge), (("is_again" : Str), m_is_again), (("is_move" : Str), m_is_move)]
theorem ft_put : List.lookup ("is_put" : Str) FT = some m_is_put := rfl
theorem ft_num : List.lookup ("is_numbered" : Str) FT = some m_is_numbered := rfl
theorem ft_bend : List.lookup ("is_bend" : Str) FT = some m_is_bend := rfl
theorem ft_forge : List.lookup ("is_forge" : Str) FT = some m_is_forge := rfl
theorem ft_again : List.lookup ("is_again" : Str) FT = some m_is_again := rfl
theorem ft_move : List.lookup ("is_move" : Str) FT = some m_is_move := rfl
abbrev LK : List (Str × Str) := [(("put" : Str), ("is_put" : Str)), (("bring" : Str), ("is_numbered" : Str)), (("bend" : Str), ("is_bend" : Str)), (("forge" : Str), ("is_forge" : Str)), (("again" : Str), ("is_again" : Str)), (("drop" : Str), ("is_numbered" : Str)), (("move" : Str), ("is_move" : Str)), (("tick" : Str), ("is_numbered" : Str))]
theorem t_dic : T_dic ("LOOKS" : Str) = some LK := rfl
def dWord (many : Int) (w : Str) (ps : List PyData) : Bool :=
  if w = "put" then dPut many ps else if w = "bring" then dOne ps else if w = "bend" then dBend ps else if w = "forge" then dForge ps else
  if w = "again" then dAgain ps else if w = "drop" then dOne ps else if w = "move" then dMove many ps else if w = "tick" then dOne ps else false
def dEv (many : Int) : PyData → Bool
  | .tuple (.str w :: ps) => dWord many w ps
  | _ => false
theorem lookLK (w : Str) : (List.lookup w LK = none ∧ ∀ many ps, dWord many w ps = false) ∨ (w = "put" ∨ w = "bring" ∨ w = "bend" ∨ w = "forge" ∨ w = "again" ∨ w = "drop" ∨ w = "move" ∨ w = "tick") := by
  by_cases h : w = "put" ∨ w = "bring" ∨ w = "bend" ∨ w = "forge" ∨ w = "again" ∨ w = "drop" ∨ w = "move" ∨ w = "tick"
  · exact .inr h
  · simp only [not_or] at h
    obtain ⟨h1, h2, h3, h4, h5, h6, h7, h8⟩ := h
    refine .inl ⟨?_, fun many ps => ?_⟩
    · rw [List.lookup_eq_none_iff]
      intro p hp
      simp only [LK, List.mem_cons, List.not_mem_nil, or_false] at hp
      rcases hp with rfl | rfl | rfl | rfl | rfl | rfl | rfl | rfl <;> simp_all
    · simp [dWord, h1, h2, h3, h4, h5, h6, h7, h8]
section
variable {b : Nat} {st : Sto} {d : PyData} {x : Val}
/-- what an event's looks come to -/
theorem look_ok {many : Int} {w f : Str} {m : Fx} {ds : List PyData} {r : Bool} (h : RD b st (.tuple (.str w :: ds)) x) (h1 : List.lookup w LK = some f) (h2 : List.lookup f FT = some m)
    (h3 : ∀ ys, RDs b st ds ys → ∃ t, m [.tup ys, .int many] st = .ok (.bl r) (st ++ t)) : ∃ t, m_is_event [x, .int many] st = .ok (.bl r) (st ++ t) := by
  obtain ⟨y, hy, ey⟩ := sl_tup (lo := some 1) (hi := none) h
  rw [show cutL (.str w :: ds) (some 1) none = ds from cutL_from (.str w :: ds) 1] at hy
  obtain ⟨ys, rfl, hys⟩ := RD.tup_iff.mp hy
  obtain ⟨t, ht⟩ := h3 ys hys
  refine ⟨t, ?_⟩
  have l1 := len_tup h
  have i1 := isi_tup h
  obtain ⟨xs, rfl, hs⟩ := RD.tup_iff.mp h
  obtain ⟨x0, xs, rfl, h0, hs⟩ := RDs.uncons hs
  have : x0 = .str w := by rw [RD] at h0; exact h0
  subst this
  have tx := is_text_ok h0
  have n0 : ¬ ((ds.length : Int) + 1 = 0) := by omega
  simp [-eSl_eq, eSl_O, m_is_event, runB, b_is_event, arr, sSeq, i1, isTupD, l1, ixt0, tx, isStrD, oGIn, oGIx, t_dic, h1, eCallV, h2, ey, ht, oEq_int, n0]
theorem is_event_ok {many : Int} (h : RD b st d x) : ∃ t, m_is_event [x, .int many] st = .ok (.bl (dEv many d)) (st ++ t) := by
  have i1 := isi_tup h
  cases d with
  | tuple ds =>
    cases ds with
    | nil =>
      have l1 := len_tup h
      exact ⟨[], by simp [-eSl_eq, eSl_O, m_is_event, runB, b_is_event, arr, sSeq, h.getV, i1, isTupD, l1, oEq_int, dEv]⟩
    | cons d0 ds =>
      have l1 := len_tup h
      have n0 : ¬ ((ds.length : Int) + 1 = 0) := by omega
      have h' := h
      obtain ⟨xs, rfl, hs⟩ := RD.tup_iff.mp h
      obtain ⟨x0, xs, rfl, h0, hs⟩ := RDs.uncons hs
      have tx := is_text_ok h0
      cases c : isStrD d0 with
      | false =>
        have e : dEv many (.tuple (d0 :: ds)) = false := by
          cases d0 <;> first | rfl | (simp [isStrD] at c)
        exact ⟨[], by simp [-eSl_eq, eSl_O, m_is_event, runB, b_is_event, arr, sSeq, i1, isTupD, l1, oEq_int, n0, ixt0, h0.getV, tx, c, e]⟩
      | true =>
        have ⟨w, e⟩ : ∃ w, d0 = .str w := by cases d0 <;> first | exact ⟨_, rfl⟩ | (simp [isStrD] at c)
        subst e
        rcases lookLK w with ⟨q, e⟩ | q
        · have : x0 = .str w := by rw [RD] at h0; exact h0
          subst this
          exact ⟨[], by simp [-eSl_eq, eSl_O, m_is_event, runB, b_is_event, arr, sSeq, i1, isTupD, l1, oEq_int, n0, ixt0, tx, isStrD, oGIn, t_dic, q, dEv, e]⟩
        · have pure1 : ∀ {a : R Val} {r : Bool}, a = .ok (.bl r) st → ∃ t, a = .ok (.bl r) (st ++ t) := fun e => ⟨[], by rw [List.append_nil]; exact e⟩
          rcases q with rfl | rfl | rfl | rfl | rfl | rfl | rfl | rfl
          · exact look_ok h' rfl ft_put fun ys hy => pure1 (is_put_ok hy)
          · exact look_ok h' rfl ft_num fun ys hy => pure1 (is_numbered_ok hy rfl)
          · exact look_ok h' rfl ft_bend fun ys hy => pure1 (is_bend_ok hy)
          · exact look_ok h' rfl ft_forge fun ys hy => pure1 (is_forge_ok hy)
          · exact look_ok h' rfl ft_again fun ys hy => is_again_ok hy
          · exact look_ok h' rfl ft_num fun ys hy => pure1 (is_numbered_ok hy rfl)
          · exact look_ok h' rfl ft_move fun ys hy => pure1 (is_move_ok hy)
          · exact look_ok h' rfl ft_num fun ys hy => pure1 (is_numbered_ok hy rfl)
  | _ => exact ⟨[], by simp [-eSl_eq, eSl_O, m_is_event, runB, b_is_event, arr, sSeq, h.getV, i1, isTupD, dEv]⟩
/-! ### need_script -/
/-- the first place that is no event -/
def dSc (many : Int) : PyData → Option Int
  | .tuple ds => (firstF (dEv many) 0 ds).map fun (a : Nat) => (a : Int)
  | _ => some (-1)
end
theorem ns_loop {b : Nat} {v : Val} {many : Int} {D : Dx} : ∀ (ds : List PyData) (xs : List Val) (k : Nat) (e2 e3 : Option Val) (st : Sto), RDs b st ds xs → (∀ a e t, firstF (dEv many) k ds = some a → D.er ("InvalidScript", [("at", .int a)]) e (st ++ t)) → (firstF (dEv many) k ds = none → ∀ e2 e3 t, D.nx [some v, some (.int many), e2, e3] (st ++ t)) →
    WpS (forL [] (gTup' 2 (gCons' (gNm 2) (gCons' (gNm 3) gNil'))) (sIf (tNot' (tVal (eCallF m_is_event [.inl 0, .inl 1] [] (aCons (eVar 3) (aCons (eVar 1) aNil))))) (sRaise ("InvalidScript" : Str) ("at" : Str) (eVar 2)) sNil) (enumF k xs) [some v, some (.int many), e2, e3] st) D
  | [], xs, k, e2, e3, st, hp, _, h => by
    rw [RDs] at hp
    subst hp
    have := h rfl e2 e3 []
    rw [List.append_nil] at this
    simpa [enumF, forL, WpS_nx] using this
  | d :: r, xs, k, e2, e3, st, hp, h1, h2 => by
    rw [RDs] at hp
    obtain ⟨x, t, rfl, hx, hr⟩ := hp
    obtain ⟨t1, q⟩ := is_event_ok (many := many) hx
    have body : (sIf (tNot' (tVal (eCallF m_is_event [.inl 0, .inl 1] [] (aCons (eVar 3) (aCons (eVar 1) aNil))))) (sRaise ("InvalidScript" : Str) ("at" : Str) (eVar 2)) sNil) [some v, some (.int many), some (.int (k : Int)), some x] st
        = if dEv many d = false then .er ("InvalidScript", [("at", .int k)]) [some v, some (.int many), some (.int (k : Int)), some x] (st ++ t1) else .nx [some v, some (.int many), some (.int (k : Int)), some x] (st ++ t1) := by
      cases hb : dEv many d with
      | false => simp [hx.getV, arr, q, hb, sRaise]
      | true => simp [hx.getV, arr, q, hb]
    unfold enumF forL
    rw [if_pos (by simp)]
    have g1 : gTup' 2 (gCons' (gNm 2) (gCons' (gNm 3) gNil')) (.tup [.int (k : Int), x]) [some v, some (.int many), e2, e3] = some [some v, some (.int many), some (.int (k : Int)), some x] := by
      simp [gTup', gCons', gNm, gNil']
    rw [g1]
    unfold firstF at h1 h2
    by_cases hc : dEv many d = false
    · rw [if_pos hc] at h1 body
      simp only [onG, body]
      exact h1 k _ t1 rfl
    · rw [if_neg hc] at h1 h2 body
      simp only [onG, body]
      refine ns_loop r t (k + 1) _ _ (st ++ t1) (RDs.gr (.app t1) r hr) (fun a e t ha => ?_) fun hn e2 e3 t => ?_
      · rw [List.append_assoc]; exact h1 a e _ ha
      · rw [List.append_assoc]; exact h2 hn e2 e3 _
theorem need_script_ok {b : Nat} {st : Sto} {d : PyData} {x : Val} {many : Int} (h : RD b st d x) : ∃ t, m_need_script [x, .int many] st = match dSc many d with
    | none => .ok .non (st ++ t)
    | some a => .err ("InvalidScript", [("at", .int a)]) (st ++ t) := by
  have i1 := isi_tup h
  cases d with
  | tuple ds =>
    have hh : Wp (m_need_script [x, .int many] st) (fun a s => dSc many (.tuple ds) = none ∧ a = .non ∧ ∃ t, s = st ++ t) (fun y s => ∃ a t, dSc many (.tuple ds) = some a ∧ y = ((("InvalidScript" : Str), [(("at" : Str), Val.int a)]) : Xn) ∧ s = st ++ t) := by
      obtain ⟨xs, rfl, hs⟩ := RD.tup_iff.mp h
      unfold m_need_script b_need_script
      rw [Wp_run, WpS_seq]
      have c0 : (tNot' (tVal (eCall (two' oIsi) (aCons (eVar 0) (aCons (eC (.ty "tuple")) aNil))))) [some (.tup xs), some (.int many), none, none] st = .ok false st := by simp [i1, isTupD]
      simp only [List.map_cons, List.map_nil, List.length_cons, List.length_nil, List.cons_append, List.nil_append, List.replicate]
      rw [W_sif, c0, Wp_ok]
      simp only [Bool.false_eq_true, if_false, W_nil]
      rw [W_for]
      simp only [iEnum', eVar_eq, List.getElem?_cons_zero, getV_tup, R.bind_ok, Wp_ok, enumV_eq]
      refine ns_loop ds xs 0 none none st hs (fun a e t ha => ?_) fun hn e2 e3 t => ?_
      · exact ⟨a, t, by simp [dSc, ha], rfl, rfl⟩
      · exact ⟨by simp [dSc, hn], trivial, t, rfl⟩
    cases q : m_need_script [x, .int many] st with
    | ok a s =>
      rw [q] at hh
      obtain ⟨h1, rfl, t, rfl⟩ := hh
      exact ⟨t, by rw [h1]⟩
    | err y s =>
      rw [q] at hh
      obtain ⟨a, t, h1, rfl, rfl⟩ := hh
      exact ⟨t, by rw [h1]⟩
    | stuck => rw [q] at hh; exact hh.elim
  | _ => exact ⟨[], by simp [m_need_script, runB, b_need_script, arr, sSeq, h.getV, i1, isTupD, dSc, sRaise, oNeg]⟩
/-- what is heard of it -/
def dHeard : Option Int → PyData
  | none => .none
  | some a => .list [.int a, .bool true]
theorem ex_is : T_exm "InvalidScript" "InvalidScript" = some true := by decide +kernel
theorem ex_xf : T_xf "InvalidScript" "at" = true := by decide +kernel
theorem ex_isx : T_isx "InvalidScript" "TunnelError" = some true := by decide +kernel
theorem heard_ok {b : Nat} {st : Sto} {d : PyData} {x : Val} {many : Int} (h : RD b st d x) (hb : b ≤ st.length) : ∃ v t, m__law_heard [x, .int many] st = .ok v (st ++ t) ∧ RD b (st ++ t) (dHeard (dSc many d)) v := by
  obtain ⟨t, q⟩ := need_script_ok (many := many) h
  have e5 : ("at" == ("at" : Str)) = true := by decide
  cases c : dSc many d with
  | none =>
    rw [c] at q
    exact ⟨.non, t, by simp [m__law_heard, runB, b__law_heard, sSeq, sTry, h.getV, arr, q], .non⟩
  | some a =>
    rw [c] at q
    refine ⟨.loc (st ++ t).length, t ++ [Ob.lst [.int a, .bl true]], ?_, ?_⟩
    · simp [m__law_heard, runB, b__law_heard, sSeq, sTry, h.getV, arr, q, clauses, ex_is, goneS, noEr, eXis, ex_isx, eXf', ex_xf, List.lookup]
    · rw [← List.append_assoc]
      exact .lst (by simp; omega) at_new (.cons .int (.cons .bl .nil))
end Lw

/-! k73, the plain law: what the law looks at. -/
namespace Lw
open PySem L2 Sm
/-- data that may be compared, at most n deep -/
def Ly (n : Nat) (d : PyData) : Prop := d.canLay0 = true ∧ d.depth ≤ n
def Lys (n : Nat) (ds : List PyData) : Prop := ∀ d ∈ ds, Ly n d
theorem Lys.all {n : Nat} {ds : List PyData} (h : Lys n ds) : PyData.canLayAll0 ds = true ∧ PyData.depthAll ds ≤ max 1 n := by
  induction ds with
  | nil => simp [PyData.canLayAll0, PyData.depthAll]
  | cons d r ih =>
    obtain ⟨h1, h2⟩ := h d List.mem_cons_self
    obtain ⟨h3, h4⟩ := ih fun x hx => h x (List.mem_cons_of_mem _ hx)
    simp only [PyData.canLayAll0, PyData.depthAll, h1, h3, Bool.and_self, true_and]
    omega
theorem Lys.of {n : Nat} {ds : List PyData} (h1 : PyData.canLayAll0 ds = true) (h2 : PyData.depthAll ds ≤ n) : Lys n ds := by
  induction ds with
  | nil => intro d hd; cases hd
  | cons d r ih =>
    simp only [PyData.canLayAll0, PyData.depthAll, Bool.and_eq_true] at h1 h2
    intro x hx
    rcases List.mem_cons.mp hx with rfl | hx
    · exact ⟨h1.1, by omega⟩
    · exact ih h1.2 (by omega) x hx
theorem Ly.parts {n : Nat} {ds : List PyData} (h : Ly n (.tuple ds)) : Lys n ds := by
  obtain ⟨h1, h2⟩ := h
  simp only [PyData.canLay0, PyData.depth] at h1 h2
  exact .of h1 (by omega)
theorem Lys.list {n : Nat} {ds : List PyData} (h : Lys n ds) (hn : n ≤ 38) : SeqAt.shaped (.list ds) = true ∧ (PyData.list ds).depth ≤ 40 := by
  obtain ⟨h1, h2⟩ := h.all
  have e : (PyData.list ds).depth ≤ 40 := by simp only [PyData.depth]; omega
  refine ⟨?_, e⟩
  simp only [SeqAt.shaped, PyData.canLay0, h1, Bool.true_and]
  exact decide_eq_true (by omega)
theorem Lys.filter {n : Nat} {ds : List PyData} (h : Lys n ds) (p : PyData → Bool) : Lys n (ds.filter p) := fun d hd => h d (List.mem_filter.mp hd).1
/-- [thing for thing in t if ..], nothing else made -/
theorem lc_filter {b : Nat} {T : Tx} {env : Sm.Env} {st : Sto} {i k : Nat} {x : Val} {ds : List PyData} {xs : List Val} (p : PyData → Bool) (hx : env[i]? = some (some (.tup xs))) (hk : k < env.length) (h : RDs b st ds xs) (hl : xs.length < 16777216)
    (hT : ∀ (d : PyData) (y : Val) (o : Ob), RD b (st ++ [o]) d y → T ((wipeE env [k]).set k (some y)) (st ++ [o]) = .ok (p d) (st ++ [o])) :
    ∃ ys, RDs b st (ds.filter p) ys ∧ eLc (iSeq (eVar i)) (gNm k) T (eVar k) [k] env st = .ok (.loc st.length) (st ++ [Ob.lst ys]) := by
  have key : ∀ (ds : List PyData) (xs acc : List Val), RDs b st ds xs → acc.length + xs.length < 16777216 → ∃ ys, RDs b st (ds.filter p) ys ∧ lcL [] (gNm k) T (eVar k) (wipeE env [k]) st.length xs (st ++ [Ob.lst acc]) = .ok () (st ++ [Ob.lst (acc ++ ys)]) := by
    intro ds
    induction ds with
    | nil =>
      intro xs acc h _
      rw [RDs] at h
      subst h
      exact ⟨[], .nil, by simp [lcL]⟩
    | cons d r ih =>
      intro xs acc h hl
      obtain ⟨y, t, rfl, h1, h2⟩ := RDs.uncons h
      have q := hT d y (Ob.lst acc) (h1.pre (pre_app _))
      have e0 : (st ++ [Ob.lst acc])[st.length]? = some (.lst acc) := at_new
      have wl : k < (wipeE env [k]).length := by simp [wipeE]; exact hk
      have ev : ∀ s, eVar k ((wipeE env [k]).set k (some y)) s = .ok y s := fun s => by
        rw [eVar_eq, List.getElem?_set_self wl, h1.getV]
      cases c : p d with
      | false =>
        obtain ⟨ys, h3, h4⟩ := ih t acc h2 (by simp only [List.length_cons] at hl; omega)
        refine ⟨ys, by rw [List.filter_cons, c]; simpa using h3, ?_⟩
        unfold lcL
        rw [if_pos (by simp)]
        simp [gNm, q, c, noErR, h4]
      | true =>
        obtain ⟨ys, h3, h4⟩ := ih t (acc ++ [y]) h2 (by simp only [List.length_cons] at hl; simp; omega)
        refine ⟨y :: ys, by rw [List.filter_cons, c]; exact .cons h1 h3, ?_⟩
        unfold lcL
        rw [if_pos (by simp)]
        have e2 : (st ++ [Ob.lst acc]).set st.length (.lst (acc ++ [y])) = st ++ [Ob.lst (acc ++ [y])] := by rw [List.set_append_right _ _ (Nat.le_refl _)]; simp
        have hal : acc.length < 16777216 := by simp only [List.length_cons] at hl; omega
        have e3 : acc ++ [y] ++ ys = acc ++ y :: ys := by simp
        rw [e3] at h4
        simp only [gNm, q, c, noErR, R.bind_ok, if_true, ev, e0, if_pos hal, e2]
        exact h4
  obtain ⟨ys, h1, h2⟩ := key ds xs [] h (by simpa using hl)
  refine ⟨ys, h1, ?_⟩
  have hi : iSeq (eVar i) env st = .ok (xs, []) st := by
    unfold iSeq
    rw [eVar_eq, hx]
    rfl
  rw [eLc_eq, hi, R.bind_ok, h2]
  rfl
section
variable {b : Nat} {st : Sto} {d : PyData} {x : Val}
def dNumB : Option Int → PyData → Bool
  | none => dNum
  | some z => dBel z
def bV : Option Int → Val
  | none => .non
  | some z => .int z
theorem lnumber_ok {z : Option Int} (h : RD b st d x) : m__law_number [x, bV z] st = .ok (.bl (dNumB z d)) st := by
  have i1 := isi_int h
  have i2 := isi_bool h
  cases d with
  | int i =>
    have := RD.int_of h
    subst this
    cases z with
    | none => by_cases c : i < 0 <;> simp [m__law_number, runB, b__law_number, sSeq, bV, i1, i2, isIntD, isBoolD, oInt_eq, oIsN, dNumB, dNum, c] <;> omega
    | some z => by_cases c : i < 0 <;> simp [m__law_number, runB, b__law_number, sSeq, bV, i1, i2, isIntD, isBoolD, oInt_eq, oIsN, dNumB, dBel, c] <;> omega
  | _ => cases z <;> simp [m__law_number, runB, b__law_number, sSeq, h.getV, i1, i2, isIntD, isBoolD, dNumB, dNum, dBel]
theorem lnumber_non (h : RD b st d x) : m__law_number [x, .non] st = .ok (.bl (dNum d)) st := lnumber_ok (z := none) h
theorem lnumber_int {z : Int} (h : RD b st d x) : m__law_number [x, .int z] st = .ok (.bl (dBel z d)) st := lnumber_ok (z := some z) h
theorem eqv_nil (ds : List PyData) : PyData.eqv (.list ds) (.list []) = ds.isEmpty := by
  cases ds <;> simp [PyData.eqv, PyData.eqvAll]
theorem filter_isEmpty (p : PyData → Bool) (ds : List PyData) : (ds.filter fun d => !p d).isEmpty = ds.all p := by
  induction ds with
  | nil => rfl
  | cons d r ih =>
    rw [List.filter_cons, List.all_cons]
    cases p d with
    | false => simp
    | true => simpa using ih
theorem lis_octets_ok {n : Nat} (h : RD b st d x) (hn : n ≤ 38) (hd : Ly n d) (hb : b ≤ st.length) (hsz : ∀ ds, d = .tuple ds → ds.length < 16777216) : ∃ t, m__law_is_octets [x] st = .ok (.bl (dOct d)) (st ++ t) := by
  have i1 := isi_tup h
  cases d with
  | tuple ds =>
    obtain ⟨xs, rfl, hs⟩ := RD.tup_iff.mp h
    obtain ⟨ys, h1, h2⟩ := lc_filter (b := b) (T := tNot' (tVal (eCallF m__law_number [.inl 0, .inl 1] [] (aCons (eVar 1) (aCons (eC (.int 256)) aNil))))) (env := [some (.tup xs), none]) (st := st) (i := 0) (k := 1) (x := .non) (fun d => !dBel 256 d) rfl (by simp) hs (by rw [hs.length]; exact hsz ds rfl)
      (fun d y o hy => by simp [wipeE, arr, hy.getV, lnumber_int hy])
    have r1 : RD b (st ++ [Ob.lst ys] ++ [Ob.lst []]) (.list (ds.filter fun d => !dBel 256 d)) (.loc st.length) := .lst hb (by rw [List.append_assoc, List.getElem?_append_right (Nat.le_refl _)]; simp) (RDs.gr (.pre ⟨_, (List.append_assoc _ _ _).symm⟩) _ h1)
    have r2 : RD b (st ++ [Ob.lst ys] ++ [Ob.lst []]) (.list []) (.loc (st ++ [Ob.lst ys]).length) := .lst (by simp; omega) at_new .nil
    obtain ⟨s1, s2⟩ := (hd.parts.filter fun d => !dBel 256 d).list hn
    have e := eq_rd (neg := false) r1 r2 s1 (by decide) s2 (by decide)
    rw [eqv_nil, filter_isEmpty] at e
    refine ⟨[Ob.lst ys, Ob.lst []], ?_⟩
    simp at e
    simp [-eLc_eq, m__law_is_octets, runB, b__law_is_octets, i1, isTupD, h2, e, dOct]
  | _ => exact ⟨[], by simp [m__law_is_octets, runB, b__law_is_octets, h.getV, i1, isTupD, dOct]⟩
theorem lis_letter_ok {n : Nat} (h : RD b st d x) (hn : n ≤ 38) (hd : Ly n d) (hb : b ≤ st.length) (hsz : ∀ ds es, d = .tuple ds → .tuple es ∈ ds → es.length < 16777216) : ∃ t, m__law_is_letter [x] st = .ok (.bl (dLet d)) (st ++ t) := by
  have i1 := isi_tup h
  cases d with
  | tuple ds =>
    have l1 := len_tup h
    by_cases c : ds.length = 3
    · obtain ⟨d0, d1, d2, rfl⟩ := len3 c
      obtain ⟨xs, rfl, hs⟩ := RD.tup_iff.mp h
      obtain ⟨x0, x1, x2, rfl, h0, h1, h2⟩ := RDs.three hs
      have n0 := lnumber_int (z := 4294967296) h0
      have n1 := lnumber_int (z := 4294967296) h1
      have eL : dLet (.tuple [d0, d1, d2]) = (dBel 4294967296 d0 && dBel 4294967296 d1 && dOct d2 && (match d2 with | .tuple ds => decide (ds.length ≤ 65535) | _ => true)) := by
        cases d2 <;> simp [dLet, dOct]
      obtain ⟨t, o2⟩ := lis_octets_ok h2 hn (hd.parts d2 (by simp)) hb (fun ds e => hsz _ ds rfl (by subst e; simp))
      have l3 : one' oLen [.tup [x0, x1, x2]] st = .ok (.int 3) st := l1
      cases c0 : dBel 4294967296 d0 with
      | false =>
        have e : dLet (.tuple [d0, d1, d2]) = false := by simp only [eL, c0, Bool.false_and]
        exact ⟨[], by rw [e]; simp [m__law_is_letter, runB, b__law_is_letter, sSeq, i1, isTupD, l3, oEq_int, arr, ixt0, ixt1, ixt2, n0, n1, c0]⟩
      | true =>
        cases c1 : dBel 4294967296 d1 with
        | false =>
          have e : dLet (.tuple [d0, d1, d2]) = false := by simp only [eL, c1, Bool.false_and, Bool.and_false]
          exact ⟨[], by rw [e]; simp [m__law_is_letter, runB, b__law_is_letter, sSeq, i1, isTupD, l3, oEq_int, arr, ixt0, ixt1, ixt2, n0, n1, c0, c1]⟩
        | true =>
          refine ⟨t, ?_⟩
          cases c2 : dOct d2 with
          | false =>
            have e : dLet (.tuple [d0, d1, d2]) = false := by simp only [eL, c2, Bool.false_and, Bool.and_false]
            rw [e]
            simp [m__law_is_letter, runB, b__law_is_letter, sSeq, i1, isTupD, l3, oEq_int, arr, ixt0, ixt1, ixt2, n0, n1, c0, c1, o2, c2]
          | true =>
            cases d2 with
            | tuple es =>
              have l2 := len_tup (h2.pre (pre_app t))
              have e0 : dLet (.tuple [d0, d1, .tuple es]) = decide (es.length ≤ 65535) := by simp only [eL, c0, c1, c2, Bool.true_and]
              rw [e0]
              have e : decide ((es.length : Int) < 65536) = decide (es.length ≤ 65535) := by
                by_cases z : es.length ≤ 65535
                · rw [decide_eq_true z]; exact decide_eq_true (by omega)
                · rw [decide_eq_false z]; exact decide_eq_false (by omega)
              simp [m__law_is_letter, runB, b__law_is_letter, sSeq, i1, isTupD, l3, oEq_int, oInt_eq, arr, ixt0, ixt1, ixt2, n0, n1, c0, c1, o2, c2, l2, e]
            | _ => simp [dOct] at c2
    · have e : dLet (.tuple ds) = false := by
        unfold dLet
        split
        · rename_i e; cases e; simp at c
        · rfl
      have c' : ¬ ((ds.length : Int) = 3) := by omega
      exact ⟨[], by simp [m__law_is_letter, runB, b__law_is_letter, sSeq, h.getV, i1, isTupD, l1, oEq_int, c', e]⟩
  | _ => exact ⟨[], by simp [m__law_is_letter, runB, b__law_is_letter, sSeq, h.getV, i1, isTupD, dLet]⟩
/-- word in (..) -/
theorem oInT_strs {neg : Bool} {w : Str} {ws : List Str} {st : Sto} (h1 : PyData.canLay0 (.str w) = true) (h2 : PyData.canLayAll0 (ws.map PyData.str) = true) : oInT neg (.str w) (.tup (ws.map Val.str)) st = .ok (.bl (if neg then !ws.any (fun z => decide (z = w)) else ws.any fun z => decide (z = w))) st := by
  have e1 : pd st deep (.str w) = some (.str w) := rfl
  have e2 : (ws.map Val.str).mapM (pd st 39) = some (ws.map PyData.str) := by
    clear h2
    induction ws with
    | nil => rfl
    | cons z r ih => rw [List.map_cons, List.mapM_cons, ih]; rfl
  have e3 : pd st deep (.tup (ws.map Val.str)) = some (.tuple (ws.map PyData.str)) := by
    show ((ws.map Val.str).mapM (pd st 39)).map PyData.tuple = _
    rw [e2]; rfl
  have e4 : (ws.map PyData.str).any (fun z => PyData.eqv z (.str w)) = ws.any fun z => decide (z = w) := by
    rw [List.any_map]
    refine congrArg (fun f => ws.any f) (funext fun z => ?_)
    simp only [Function.comp, PyData.eqv]
    by_cases q : z = w
    · simp [q]
    · simp [q]
  have e5 : SeqAt.shaped (.str w) = true := by simp [SeqAt.shaped, PyData.depth, h1]
  have e6 : ∀ ws : List Str, PyData.depthAll (ws.map PyData.str) ≤ 1 := fun ws => by
    induction ws with
    | nil => simp [PyData.depthAll]
    | cons z r ih => simp only [List.map_cons, PyData.depthAll, PyData.depth]; omega
  have e7 : SeqAt.shaped (.tuple (ws.map PyData.str)) = true := by
    have := e6 ws
    simp only [SeqAt.shaped, PyData.canLay0, h2, Bool.true_and]
    exact decide_eq_true (by simp only [PyData.depth]; omega)
  unfold oInT
  rw [e1, e3]
  simp only [e5, e7, Bool.and_self, if_true, e4]
end
end Lw

/-! k73, the plain law: events, as the law looks at them. -/
namespace Lw
open PySem L2 Sm
theorem in3 {neg : Bool} {w a1 a2 a3 : Str} {st : Sto} (h1 : PyData.canLay0 (.str w) = true) (h2 : PyData.canLayAll0 ([a1, a2, a3].map PyData.str) = true) : oInT neg (.str w) (.tup [.str a1, .str a2, .str a3]) st = .ok (.bl (if neg then !(decide (a1 = w) || (decide (a2 = w) || (decide (a3 = w) || false))) else (decide (a1 = w) || (decide (a2 = w) || (decide (a3 = w) || false))))) st := oInT_strs (ws := [a1, a2, a3]) h1 h2
theorem lay1 : PyData.canLayAll0 ([("bring" : Str), "drop", "tick"].map PyData.str) = true := by decide +kernel
theorem lay2 : PyData.canLayAll0 ([("bend" : Str), "forge", "again"].map PyData.str) = true := by decide +kernel
theorem len4 {ps : List PyData} (c : ps.length = 4) : ∃ a b c d, ps = [a, b, c, d] := by
  match ps, c with
  | [a, b, d, e], _ => exact ⟨a, b, d, e, rfl⟩
theorem ne_put_bring : decide (("put" : Str) = "bring") = false := by decide +kernel
theorem ne_put_bend : decide (("put" : Str) = "bend") = false := by decide +kernel
theorem ne_put_forge : decide (("put" : Str) = "forge") = false := by decide +kernel
theorem ne_put_again : decide (("put" : Str) = "again") = false := by decide +kernel
theorem ne_put_drop : decide (("put" : Str) = "drop") = false := by decide +kernel
theorem ne_put_move : decide (("put" : Str) = "move") = false := by decide +kernel
theorem ne_put_tick : decide (("put" : Str) = "tick") = false := by decide +kernel
theorem ne_bring_put : decide (("bring" : Str) = "put") = false := by decide +kernel
theorem ne_bring_bend : decide (("bring" : Str) = "bend") = false := by decide +kernel
theorem ne_bring_forge : decide (("bring" : Str) = "forge") = false := by decide +kernel
theorem ne_bring_again : decide (("bring" : Str) = "again") = false := by decide +kernel
theorem ne_bring_drop : decide (("bring" : Str) = "drop") = false := by decide +kernel
theorem ne_bring_move : decide (("bring" : Str) = "move") = false := by decide +kernel
theorem ne_bring_tick : decide (("bring" : Str) = "tick") = false := by decide +kernel
theorem ne_bend_put : decide (("bend" : Str) = "put") = false := by decide +kernel
theorem ne_bend_bring : decide (("bend" : Str) = "bring") = false := by decide +kernel
theorem ne_bend_forge : decide (("bend" : Str) = "forge") = false := by decide +kernel
theorem ne_bend_again : decide (("bend" : Str) = "again") = false := by decide +kernel
theorem ne_bend_drop : decide (("bend" : Str) = "drop") = false := by decide +kernel
theorem ne_bend_move : decide (("bend" : Str) = "move") = false := by decide +kernel
theorem ne_bend_tick : decide (("bend" : Str) = "tick") = false := by decide +kernel
theorem ne_forge_put : decide (("forge" : Str) = "put") = false := by decide +kernel
theorem ne_forge_bring : decide (("forge" : Str) = "bring") = false := by decide +kernel
theorem ne_forge_bend : decide (("forge" : Str) = "bend") = false := by decide +kernel
theorem ne_forge_again : decide (("forge" : Str) = "again") = false := by decide +kernel
theorem ne_forge_drop : decide (("forge" : Str) = "drop") = false := by decide +kernel
theorem ne_forge_move : decide (("forge" : Str) = "move") = false := by decide +kernel
theorem ne_forge_tick : decide (("forge" : Str) = "tick") = false := by decide +kernel
theorem ne_again_put : decide (("again" : Str) = "put") = false := by decide +kernel
theorem ne_again_bring : decide (("again" : Str) = "bring") = false := by decide +kernel
theorem ne_again_bend : decide (("again" : Str) = "bend") = false := by decide +kernel
theorem ne_again_forge : decide (("again" : Str) = "forge") = false := by decide +kernel
theorem ne_again_drop : decide (("again" : Str) = "drop") = false := by decide +kernel
theorem ne_again_move : decide (("again" : Str) = "move") = false := by decide +kernel
theorem ne_again_tick : decide (("again" : Str) = "tick") = false := by decide +kernel
theorem ne_drop_put : decide (("drop" : Str) = "put") = false := by decide +kernel
theorem ne_drop_bring : decide (("drop" : Str) = "bring") = false := by decide +kernel
theorem ne_drop_bend : decide (("drop" : Str) = "bend") = false := by decide +kernel
theorem ne_drop_forge : decide (("drop" : Str) = "forge") = false := by decide +kernel
theorem ne_drop_again : decide (("drop" : Str) = "again") = false := by decide +kernel
theorem ne_drop_move : decide (("drop" : Str) = "move") = false := by decide +kernel
theorem ne_drop_tick : decide (("drop" : Str) = "tick") = false := by decide +kernel
theorem ne_move_put : decide (("move" : Str) = "put") = false := by decide +kernel
theorem ne_move_bring : decide (("move" : Str) = "bring") = false := by decide +kernel
theorem ne_move_bend : decide (("move" : Str) = "bend") = false := by decide +kernel
theorem ne_move_forge : decide (("move" : Str) = "forge") = false := by decide +kernel
theorem ne_move_again : decide (("move" : Str) = "again") = false := by decide +kernel
theorem ne_move_drop : decide (("move" : Str) = "drop") = false := by decide +kernel
theorem ne_move_tick : decide (("move" : Str) = "tick") = false := by decide +kernel
theorem ne_tick_put : decide (("tick" : Str) = "put") = false := by decide +kernel
theorem ne_tick_bring : decide (("tick" : Str) = "bring") = false := by decide +kernel
theorem ne_tick_bend : decide (("tick" : Str) = "bend") = false := by decide +kernel
theorem ne_tick_forge : decide (("tick" : Str) = "forge") = false := by decide +kernel
theorem ne_tick_again : decide (("tick" : Str) = "again") = false := by decide +kernel
theorem ne_tick_drop : decide (("tick" : Str) = "drop") = false := by decide +kernel
theorem ne_tick_move : decide (("tick" : Str) = "move") = false := by decide +kernel
section
variable {b : Nat} {st : Sto} {d : PyData} {x : Val}
theorem dsub {n : Nat} {w : Str} {ds : List PyData} (h : Ly n (.tuple (.str w :: ds))) : Lys n ds := fun d hd => h.parts d (List.mem_cons_of_mem _ hd)
/-- sizes that may be walked -/
def Wk (d : PyData) : Prop := ∀ ds, d = .tuple ds → ds.length < 16777216 ∧ ∀ es, .tuple es ∈ ds → es.length < 16777216 ∧ ∀ fs, .tuple fs ∈ es → fs.length < 16777216

theorem ev_put {n : Nat} {many : Int} {ds : List PyData} (hn : n ≤ 38) (hd : Ly n (.tuple (.str "put" :: ds))) (hk : Wk (.tuple (.str "put" :: ds))) (hb : b ≤ st.length) (h : RD b st (.tuple (.str "put" :: ds)) x) : ∃ t, m__law_is_event [x, .int many] st = .ok (.bl (dWord many "put" ds)) (st ++ t) := by
  have i1 := isi_tup h
  have l1 := len_tup h
  have n0 : ¬ ((ds.length : Int) + 1 = 0) := by omega
  have a1 : ∀ s, oInT false (.str "put") (.tup [.str "bring", .str "drop", .str "tick"]) s = .ok (.bl false) s := fun s => by rw [in3 (by decide +kernel) lay1]; simp [ne_bring_put, ne_bend_put, ne_forge_put, ne_again_put, ne_drop_put, ne_move_put, ne_tick_put, ne_put_bring, ne_put_bend, ne_put_forge, ne_put_again, ne_put_drop, ne_put_move, ne_put_tick]
  have a2 : ∀ s, oInT true (.str "put") (.tup [.str "bend", .str "forge", .str "again"]) s = .ok (.bl true) s := fun s => by rw [in3 (by decide +kernel) lay2]; simp [ne_bring_put, ne_bend_put, ne_forge_put, ne_again_put, ne_drop_put, ne_move_put, ne_tick_put, ne_put_bring, ne_put_bend, ne_put_forge, ne_put_again, ne_put_drop, ne_put_move, ne_put_tick]
  have q : ∀ many ds, dWord many "put" ds = dPut many ds := fun many ds => rfl
  rw [q]
  obtain ⟨xs, rfl, hs'⟩ := RD.tup_iff.mp h
  obtain ⟨x0, xs, rfl, h0, hs⟩ := RDs.uncons hs'
  have : x0 = .str "put" := by rw [RD] at h0; exact h0
  subst this
  have s1 := isi_str h0
  by_cases c : ds.length = 2
  · obtain ⟨d0, d1, rfl⟩ := len2 c
    obtain ⟨y0, y1, rfl, g0, g1⟩ := RDs.two hs
    have l4 : one' oLen [.tup (.str "put" :: [y0, y1])] st = .ok (.int 3) st := l1
    clear l1
    have m0 := lnumber_int (z := many) g0
    obtain ⟨t, o1⟩ := lis_letter_ok g1 hn (dsub hd d1 (by simp)) hb (fun es fs e1 e2 => by subst e1; exact ((hk _ rfl).2 es (by simp)).2 fs e2)
    cases c0 : dBel many d0 with
    | false => exact ⟨[], by simp [m__law_is_event, runB, b__law_is_event, sSeq, i1, isTupD, l4, s1, isStrD, oEq_int, oEq_str, arr, ixt0, ixt1, ixt2, ixt3, a1, a2, ne_bring_put, ne_bend_put, ne_forge_put, ne_again_put, ne_drop_put, ne_move_put, ne_tick_put, ne_put_bring, ne_put_bend, ne_put_forge, ne_put_again, ne_put_drop, ne_put_move, ne_put_tick, m0, c0, dPut]⟩
    | true => exact ⟨t, by simp [m__law_is_event, runB, b__law_is_event, sSeq, i1, isTupD, l4, s1, isStrD, oEq_int, oEq_str, arr, ixt0, ixt1, ixt2, ixt3, a1, a2, ne_bring_put, ne_bend_put, ne_forge_put, ne_again_put, ne_drop_put, ne_move_put, ne_tick_put, ne_put_bring, ne_put_bend, ne_put_forge, ne_put_again, ne_put_drop, ne_put_move, ne_put_tick, m0, c0, o1, dPut]⟩
  · have e : dPut many ds = false := by
      unfold dPut
      split
      · simp at c
      · rfl
    have c' : ¬ ((ds.length : Int) + 1 = 3) := by omega
    exact ⟨[], by rw [e]; simp [m__law_is_event, runB, b__law_is_event, sSeq, i1, isTupD, l1, s1, isStrD, oEq_int, oEq_str, arr, ixt0, ixt1, ixt2, ixt3, n0, a1, a2, ne_bring_put, ne_bend_put, ne_forge_put, ne_again_put, ne_drop_put, ne_move_put, ne_tick_put, ne_put_bring, ne_put_bend, ne_put_forge, ne_put_again, ne_put_drop, ne_put_move, ne_put_tick, c']⟩
theorem ev_bring {n : Nat} {many : Int} {ds : List PyData} (hn : n ≤ 38) (hd : Ly n (.tuple (.str "bring" :: ds))) (hk : Wk (.tuple (.str "bring" :: ds))) (hb : b ≤ st.length) (h : RD b st (.tuple (.str "bring" :: ds)) x) : ∃ t, m__law_is_event [x, .int many] st = .ok (.bl (dWord many "bring" ds)) (st ++ t) := by
  have i1 := isi_tup h
  have l1 := len_tup h
  have n0 : ¬ ((ds.length : Int) + 1 = 0) := by omega
  have a1 : ∀ s, oInT false (.str "bring") (.tup [.str "bring", .str "drop", .str "tick"]) s = .ok (.bl true) s := fun s => by rw [in3 (by decide +kernel) lay1]; simp [ne_put_bring, ne_bend_bring, ne_forge_bring, ne_again_bring, ne_drop_bring, ne_move_bring, ne_tick_bring, ne_bring_put, ne_bring_bend, ne_bring_forge, ne_bring_again, ne_bring_drop, ne_bring_move, ne_bring_tick]
  have a2 : ∀ s, oInT true (.str "bring") (.tup [.str "bend", .str "forge", .str "again"]) s = .ok (.bl true) s := fun s => by rw [in3 (by decide +kernel) lay2]; simp [ne_put_bring, ne_bend_bring, ne_forge_bring, ne_again_bring, ne_drop_bring, ne_move_bring, ne_tick_bring, ne_bring_put, ne_bring_bend, ne_bring_forge, ne_bring_again, ne_bring_drop, ne_bring_move, ne_bring_tick]
  have q : ∀ many ds, dWord many "bring" ds = dOne ds := fun many ds => rfl
  rw [q]
  obtain ⟨xs, rfl, hs'⟩ := RD.tup_iff.mp h
  obtain ⟨x0, xs, rfl, h0, hs⟩ := RDs.uncons hs'
  have : x0 = .str "bring" := by rw [RD] at h0; exact h0
  subst this
  have s1 := isi_str h0
  by_cases c : ds.length = 1
  · obtain ⟨d0, rfl⟩ := len1 c
    obtain ⟨y0, rfl, g0⟩ := RDs.one hs
    have l4 : one' oLen [.tup (.str "bring" :: [y0])] st = .ok (.int 2) st := l1
    clear l1
    have m0 := lnumber_non g0
    exact ⟨[], by simp [m__law_is_event, runB, b__law_is_event, sSeq, i1, isTupD, l4, s1, isStrD, oEq_int, oEq_str, arr, ixt0, ixt1, ixt2, ixt3, a1, a2, ne_put_bring, ne_bend_bring, ne_forge_bring, ne_again_bring, ne_drop_bring, ne_move_bring, ne_tick_bring, ne_bring_put, ne_bring_bend, ne_bring_forge, ne_bring_again, ne_bring_drop, ne_bring_move, ne_bring_tick, m0, dOne]⟩
  · have e : dOne ds = false := by
      unfold dOne
      split
      · simp at c
      · rfl
    have c' : ¬ ((ds.length : Int) + 1 = 2) := by omega
    exact ⟨[], by rw [e]; simp [m__law_is_event, runB, b__law_is_event, sSeq, i1, isTupD, l1, s1, isStrD, oEq_int, oEq_str, arr, ixt0, ixt1, ixt2, ixt3, n0, a1, a2, ne_put_bring, ne_bend_bring, ne_forge_bring, ne_again_bring, ne_drop_bring, ne_move_bring, ne_tick_bring, ne_bring_put, ne_bring_bend, ne_bring_forge, ne_bring_again, ne_bring_drop, ne_bring_move, ne_bring_tick, c']⟩
theorem ev_bend {n : Nat} {many : Int} {ds : List PyData} (hn : n ≤ 38) (hd : Ly n (.tuple (.str "bend" :: ds))) (hk : Wk (.tuple (.str "bend" :: ds))) (hb : b ≤ st.length) (h : RD b st (.tuple (.str "bend" :: ds)) x) : ∃ t, m__law_is_event [x, .int many] st = .ok (.bl (dWord many "bend" ds)) (st ++ t) := by
  have i1 := isi_tup h
  have l1 := len_tup h
  have n0 : ¬ ((ds.length : Int) + 1 = 0) := by omega
  have a1 : ∀ s, oInT false (.str "bend") (.tup [.str "bring", .str "drop", .str "tick"]) s = .ok (.bl false) s := fun s => by rw [in3 (by decide +kernel) lay1]; simp [ne_put_bend, ne_bring_bend, ne_forge_bend, ne_again_bend, ne_drop_bend, ne_move_bend, ne_tick_bend, ne_bend_put, ne_bend_bring, ne_bend_forge, ne_bend_again, ne_bend_drop, ne_bend_move, ne_bend_tick]
  have a2 : ∀ s, oInT true (.str "bend") (.tup [.str "bend", .str "forge", .str "again"]) s = .ok (.bl false) s := fun s => by rw [in3 (by decide +kernel) lay2]; simp [ne_put_bend, ne_bring_bend, ne_forge_bend, ne_again_bend, ne_drop_bend, ne_move_bend, ne_tick_bend, ne_bend_put, ne_bend_bring, ne_bend_forge, ne_bend_again, ne_bend_drop, ne_bend_move, ne_bend_tick]
  have q : ∀ many ds, dWord many "bend" ds = dBend ds := fun many ds => rfl
  rw [q]
  obtain ⟨xs, rfl, hs'⟩ := RD.tup_iff.mp h
  obtain ⟨x0, xs, rfl, h0, hs⟩ := RDs.uncons hs'
  have : x0 = .str "bend" := by rw [RD] at h0; exact h0
  subst this
  have s1 := isi_str h0
  by_cases c : ds.length = 3
  · obtain ⟨d0, d1, d2, rfl⟩ := len3 c
    obtain ⟨y0, y1, y2, rfl, g0, g1, g2⟩ := RDs.three hs
    have l4 : one' oLen [.tup (.str "bend" :: [y0, y1, y2])] st = .ok (.int 4) st := l1
    clear l1
    have m0 := lnumber_non g0
    have m1 := lnumber_non g1
    have m2 := lnumber_int (z := 256) g2
    cases c0 : dNum d0 with
    | false => exact ⟨[], by simp [m__law_is_event, runB, b__law_is_event, sSeq, i1, isTupD, l4, s1, isStrD, oEq_int, oEq_str, arr, ixt0, ixt1, ixt2, ixt3, a1, a2, ne_put_bend, ne_bring_bend, ne_forge_bend, ne_again_bend, ne_drop_bend, ne_move_bend, ne_tick_bend, ne_bend_put, ne_bend_bring, ne_bend_forge, ne_bend_again, ne_bend_drop, ne_bend_move, ne_bend_tick, m0, c0, dBend]⟩
    | true =>
      cases c1 : dNum d1 with
      | false => exact ⟨[], by simp [m__law_is_event, runB, b__law_is_event, sSeq, i1, isTupD, l4, s1, isStrD, oEq_int, oEq_str, arr, ixt0, ixt1, ixt2, ixt3, a1, a2, ne_put_bend, ne_bring_bend, ne_forge_bend, ne_again_bend, ne_drop_bend, ne_move_bend, ne_tick_bend, ne_bend_put, ne_bend_bring, ne_bend_forge, ne_bend_again, ne_bend_drop, ne_bend_move, ne_bend_tick, m0, c0, m1, c1, dBend]⟩
      | true =>
        cases c2 : dBel 256 d2 with
        | false =>
          have e : dBy d2 = false := by
            cases d2 <;> first | rfl | skip
            rename_i i
            simp [dBel] at c2
            simp [dBy]
            omega
          exact ⟨[], by simp [m__law_is_event, runB, b__law_is_event, sSeq, i1, isTupD, l4, s1, isStrD, oEq_int, oEq_str, arr, ixt0, ixt1, ixt2, ixt3, a1, a2, ne_put_bend, ne_bring_bend, ne_forge_bend, ne_again_bend, ne_drop_bend, ne_move_bend, ne_tick_bend, ne_bend_put, ne_bend_bring, ne_bend_forge, ne_bend_again, ne_bend_drop, ne_bend_move, ne_bend_tick, m0, c0, m1, c1, m2, c2, dBend, e]⟩
        | true =>
          cases d2 with
          | int i =>
            have := RD.int_of g2
            subst this
            have e : dBy (.int i) = decide (0 < i) := by simp [dBel] at c2; simp [dBy, c2]
            exact ⟨[], by simp [m__law_is_event, runB, b__law_is_event, sSeq, i1, isTupD, l4, s1, isStrD, oEq_int, oEq_str, arr, ixt0, ixt1, ixt2, ixt3, a1, a2, ne_put_bend, ne_bring_bend, ne_forge_bend, ne_again_bend, ne_drop_bend, ne_move_bend, ne_tick_bend, ne_bend_put, ne_bend_bring, ne_bend_forge, ne_bend_again, ne_bend_drop, ne_bend_move, ne_bend_tick, m0, c0, m1, c1, m2, c2, dBend, e, oInt_eq]⟩
          | _ => simp [dBel] at c2
  · have e : dBend ds = false := by
      unfold dBend
      split
      · simp at c
      · rfl
    have c' : ¬ ((ds.length : Int) + 1 = 4) := by omega
    exact ⟨[], by rw [e]; simp [m__law_is_event, runB, b__law_is_event, sSeq, i1, isTupD, l1, s1, isStrD, oEq_int, oEq_str, arr, ixt0, ixt1, ixt2, ixt3, n0, a1, a2, ne_put_bend, ne_bring_bend, ne_forge_bend, ne_again_bend, ne_drop_bend, ne_move_bend, ne_tick_bend, ne_bend_put, ne_bend_bring, ne_bend_forge, ne_bend_again, ne_bend_drop, ne_bend_move, ne_bend_tick, c']⟩
theorem ev_forge {n : Nat} {many : Int} {ds : List PyData} (hn : n ≤ 38) (hd : Ly n (.tuple (.str "forge" :: ds))) (hk : Wk (.tuple (.str "forge" :: ds))) (hb : b ≤ st.length) (h : RD b st (.tuple (.str "forge" :: ds)) x) : ∃ t, m__law_is_event [x, .int many] st = .ok (.bl (dWord many "forge" ds)) (st ++ t) := by
  have i1 := isi_tup h
  have l1 := len_tup h
  have n0 : ¬ ((ds.length : Int) + 1 = 0) := by omega
  have a1 : ∀ s, oInT false (.str "forge") (.tup [.str "bring", .str "drop", .str "tick"]) s = .ok (.bl false) s := fun s => by rw [in3 (by decide +kernel) lay1]; simp [ne_put_forge, ne_bring_forge, ne_bend_forge, ne_again_forge, ne_drop_forge, ne_move_forge, ne_tick_forge, ne_forge_put, ne_forge_bring, ne_forge_bend, ne_forge_again, ne_forge_drop, ne_forge_move, ne_forge_tick]
  have a2 : ∀ s, oInT true (.str "forge") (.tup [.str "bend", .str "forge", .str "again"]) s = .ok (.bl false) s := fun s => by rw [in3 (by decide +kernel) lay2]; simp [ne_put_forge, ne_bring_forge, ne_bend_forge, ne_again_forge, ne_drop_forge, ne_move_forge, ne_tick_forge, ne_forge_put, ne_forge_bring, ne_forge_bend, ne_forge_again, ne_forge_drop, ne_forge_move, ne_forge_tick]
  have q : ∀ many ds, dWord many "forge" ds = dForge ds := fun many ds => rfl
  rw [q]
  obtain ⟨xs, rfl, hs'⟩ := RD.tup_iff.mp h
  obtain ⟨x0, xs, rfl, h0, hs⟩ := RDs.uncons hs'
  have : x0 = .str "forge" := by rw [RD] at h0; exact h0
  subst this
  have s1 := isi_str h0
  by_cases c : ds.length = 3
  · obtain ⟨d0, d1, d2, rfl⟩ := len3 c
    obtain ⟨y0, y1, y2, rfl, g0, g1, g2⟩ := RDs.three hs
    have l4 : one' oLen [.tup (.str "forge" :: [y0, y1, y2])] st = .ok (.int 4) st := l1
    clear l1
    have m0 := lnumber_non g0
    have m1 := lnumber_non g1
    obtain ⟨t, o1⟩ := lis_octets_ok g2 hn (dsub hd d2 (by simp)) hb (fun es e => by subst e; exact ((hk _ rfl).2 es (by simp)).1)
    cases c0 : dNum d0 with
    | false => exact ⟨[], by simp [m__law_is_event, runB, b__law_is_event, sSeq, i1, isTupD, l4, s1, isStrD, oEq_int, oEq_str, arr, ixt0, ixt1, ixt2, ixt3, a1, a2, ne_put_forge, ne_bring_forge, ne_bend_forge, ne_again_forge, ne_drop_forge, ne_move_forge, ne_tick_forge, ne_forge_put, ne_forge_bring, ne_forge_bend, ne_forge_again, ne_forge_drop, ne_forge_move, ne_forge_tick, m0, c0, dForge]⟩
    | true =>
      cases c1 : dNum d1 with
      | false => exact ⟨[], by simp [m__law_is_event, runB, b__law_is_event, sSeq, i1, isTupD, l4, s1, isStrD, oEq_int, oEq_str, arr, ixt0, ixt1, ixt2, ixt3, a1, a2, ne_put_forge, ne_bring_forge, ne_bend_forge, ne_again_forge, ne_drop_forge, ne_move_forge, ne_tick_forge, ne_forge_put, ne_forge_bring, ne_forge_bend, ne_forge_again, ne_forge_drop, ne_forge_move, ne_forge_tick, m0, c0, m1, c1, dForge]⟩
      | true => exact ⟨t, by simp [m__law_is_event, runB, b__law_is_event, sSeq, i1, isTupD, l4, s1, isStrD, oEq_int, oEq_str, arr, ixt0, ixt1, ixt2, ixt3, a1, a2, ne_put_forge, ne_bring_forge, ne_bend_forge, ne_again_forge, ne_drop_forge, ne_move_forge, ne_tick_forge, ne_forge_put, ne_forge_bring, ne_forge_bend, ne_forge_again, ne_forge_drop, ne_forge_move, ne_forge_tick, m0, c0, m1, c1, o1, dForge]⟩
  · have e : dForge ds = false := by
      unfold dForge
      split
      · simp at c
      · rfl
    have c' : ¬ ((ds.length : Int) + 1 = 4) := by omega
    exact ⟨[], by rw [e]; simp [m__law_is_event, runB, b__law_is_event, sSeq, i1, isTupD, l1, s1, isStrD, oEq_int, oEq_str, arr, ixt0, ixt1, ixt2, ixt3, n0, a1, a2, ne_put_forge, ne_bring_forge, ne_bend_forge, ne_again_forge, ne_drop_forge, ne_move_forge, ne_tick_forge, ne_forge_put, ne_forge_bring, ne_forge_bend, ne_forge_again, ne_forge_drop, ne_forge_move, ne_forge_tick, c']⟩
theorem ev_again {n : Nat} {many : Int} {ds : List PyData} (hn : n ≤ 38) (hd : Ly n (.tuple (.str "again" :: ds))) (hk : Wk (.tuple (.str "again" :: ds))) (hb : b ≤ st.length) (h : RD b st (.tuple (.str "again" :: ds)) x) : ∃ t, m__law_is_event [x, .int many] st = .ok (.bl (dWord many "again" ds)) (st ++ t) := by
  have i1 := isi_tup h
  have l1 := len_tup h
  have n0 : ¬ ((ds.length : Int) + 1 = 0) := by omega
  have a1 : ∀ s, oInT false (.str "again") (.tup [.str "bring", .str "drop", .str "tick"]) s = .ok (.bl false) s := fun s => by rw [in3 (by decide +kernel) lay1]; simp [ne_put_again, ne_bring_again, ne_bend_again, ne_forge_again, ne_drop_again, ne_move_again, ne_tick_again, ne_again_put, ne_again_bring, ne_again_bend, ne_again_forge, ne_again_drop, ne_again_move, ne_again_tick]
  have a2 : ∀ s, oInT true (.str "again") (.tup [.str "bend", .str "forge", .str "again"]) s = .ok (.bl false) s := fun s => by rw [in3 (by decide +kernel) lay2]; simp [ne_put_again, ne_bring_again, ne_bend_again, ne_forge_again, ne_drop_again, ne_move_again, ne_tick_again, ne_again_put, ne_again_bring, ne_again_bend, ne_again_forge, ne_again_drop, ne_again_move, ne_again_tick]
  have q : ∀ many ds, dWord many "again" ds = dAgain ds := fun many ds => rfl
  rw [q]
  obtain ⟨xs, rfl, hs'⟩ := RD.tup_iff.mp h
  obtain ⟨x0, xs, rfl, h0, hs⟩ := RDs.uncons hs'
  have : x0 = .str "again" := by rw [RD] at h0; exact h0
  subst this
  have s1 := isi_str h0
  by_cases c : ds.length = 3
  · obtain ⟨d0, d1, d2, rfl⟩ := len3 c
    obtain ⟨y0, y1, y2, rfl, g0, g1, g2⟩ := RDs.three hs
    have l4 : one' oLen [.tup (.str "again" :: [y0, y1, y2])] st = .ok (.int 4) st := l1
    clear l1
    have m0 := lnumber_non g0
    have m1 := lnumber_non g1
    have m2 := lnumber_non g2
    cases c0 : dNum d0 with
    | false => exact ⟨[], by simp [m__law_is_event, runB, b__law_is_event, sSeq, i1, isTupD, l4, s1, isStrD, oEq_int, oEq_str, arr, ixt0, ixt1, ixt2, ixt3, a1, a2, ne_put_again, ne_bring_again, ne_bend_again, ne_forge_again, ne_drop_again, ne_move_again, ne_tick_again, ne_again_put, ne_again_bring, ne_again_bend, ne_again_forge, ne_again_drop, ne_again_move, ne_again_tick, m0, c0, dAgain]⟩
    | true =>
      cases c1 : dNum d1 with
      | false => exact ⟨[], by simp [m__law_is_event, runB, b__law_is_event, sSeq, i1, isTupD, l4, s1, isStrD, oEq_int, oEq_str, arr, ixt0, ixt1, ixt2, ixt3, a1, a2, ne_put_again, ne_bring_again, ne_bend_again, ne_forge_again, ne_drop_again, ne_move_again, ne_tick_again, ne_again_put, ne_again_bring, ne_again_bend, ne_again_forge, ne_again_drop, ne_again_move, ne_again_tick, m0, c0, m1, c1, dAgain]⟩
      | true =>
        cases c2 : dNum d2 with
        | false => exact ⟨[], by simp [m__law_is_event, runB, b__law_is_event, sSeq, i1, isTupD, l4, s1, isStrD, oEq_int, oEq_str, arr, ixt0, ixt1, ixt2, ixt3, a1, a2, ne_put_again, ne_bring_again, ne_bend_again, ne_forge_again, ne_drop_again, ne_move_again, ne_tick_again, ne_again_put, ne_again_bring, ne_again_bend, ne_again_forge, ne_again_drop, ne_again_move, ne_again_tick, m0, c0, m1, c1, m2, c2, dAgain]⟩
        | true => exact ⟨[], by simp [m__law_is_event, runB, b__law_is_event, sSeq, i1, isTupD, l4, s1, isStrD, oEq_int, oEq_str, arr, ixt0, ixt1, ixt2, ixt3, a1, a2, ne_put_again, ne_bring_again, ne_bend_again, ne_forge_again, ne_drop_again, ne_move_again, ne_tick_again, ne_again_put, ne_again_bring, ne_again_bend, ne_again_forge, ne_again_drop, ne_again_move, ne_again_tick, m0, c0, m1, c1, m2, c2, dAgain]⟩
  · have e : dAgain ds = false := by
      unfold dAgain
      split
      · simp at c
      · rfl
    have c' : ¬ ((ds.length : Int) + 1 = 4) := by omega
    exact ⟨[], by rw [e]; simp [m__law_is_event, runB, b__law_is_event, sSeq, i1, isTupD, l1, s1, isStrD, oEq_int, oEq_str, arr, ixt0, ixt1, ixt2, ixt3, n0, a1, a2, ne_put_again, ne_bring_again, ne_bend_again, ne_forge_again, ne_drop_again, ne_move_again, ne_tick_again, ne_again_put, ne_again_bring, ne_again_bend, ne_again_forge, ne_again_drop, ne_again_move, ne_again_tick, c']⟩
theorem ev_drop {n : Nat} {many : Int} {ds : List PyData} (hn : n ≤ 38) (hd : Ly n (.tuple (.str "drop" :: ds))) (hk : Wk (.tuple (.str "drop" :: ds))) (hb : b ≤ st.length) (h : RD b st (.tuple (.str "drop" :: ds)) x) : ∃ t, m__law_is_event [x, .int many] st = .ok (.bl (dWord many "drop" ds)) (st ++ t) := by
  have i1 := isi_tup h
  have l1 := len_tup h
  have n0 : ¬ ((ds.length : Int) + 1 = 0) := by omega
  have a1 : ∀ s, oInT false (.str "drop") (.tup [.str "bring", .str "drop", .str "tick"]) s = .ok (.bl true) s := fun s => by rw [in3 (by decide +kernel) lay1]; simp [ne_put_drop, ne_bring_drop, ne_bend_drop, ne_forge_drop, ne_again_drop, ne_move_drop, ne_tick_drop, ne_drop_put, ne_drop_bring, ne_drop_bend, ne_drop_forge, ne_drop_again, ne_drop_move, ne_drop_tick]
  have a2 : ∀ s, oInT true (.str "drop") (.tup [.str "bend", .str "forge", .str "again"]) s = .ok (.bl true) s := fun s => by rw [in3 (by decide +kernel) lay2]; simp [ne_put_drop, ne_bring_drop, ne_bend_drop, ne_forge_drop, ne_again_drop, ne_move_drop, ne_tick_drop, ne_drop_put, ne_drop_bring, ne_drop_bend, ne_drop_forge, ne_drop_again, ne_drop_move, ne_drop_tick]
  have q : ∀ many ds, dWord many "drop" ds = dOne ds := fun many ds => rfl
  rw [q]
  obtain ⟨xs, rfl, hs'⟩ := RD.tup_iff.mp h
  obtain ⟨x0, xs, rfl, h0, hs⟩ := RDs.uncons hs'
  have : x0 = .str "drop" := by rw [RD] at h0; exact h0
  subst this
  have s1 := isi_str h0
  by_cases c : ds.length = 1
  · obtain ⟨d0, rfl⟩ := len1 c
    obtain ⟨y0, rfl, g0⟩ := RDs.one hs
    have l4 : one' oLen [.tup (.str "drop" :: [y0])] st = .ok (.int 2) st := l1
    clear l1
    have m0 := lnumber_non g0
    exact ⟨[], by simp [m__law_is_event, runB, b__law_is_event, sSeq, i1, isTupD, l4, s1, isStrD, oEq_int, oEq_str, arr, ixt0, ixt1, ixt2, ixt3, a1, a2, ne_put_drop, ne_bring_drop, ne_bend_drop, ne_forge_drop, ne_again_drop, ne_move_drop, ne_tick_drop, ne_drop_put, ne_drop_bring, ne_drop_bend, ne_drop_forge, ne_drop_again, ne_drop_move, ne_drop_tick, m0, dOne]⟩
  · have e : dOne ds = false := by
      unfold dOne
      split
      · simp at c
      · rfl
    have c' : ¬ ((ds.length : Int) + 1 = 2) := by omega
    exact ⟨[], by rw [e]; simp [m__law_is_event, runB, b__law_is_event, sSeq, i1, isTupD, l1, s1, isStrD, oEq_int, oEq_str, arr, ixt0, ixt1, ixt2, ixt3, n0, a1, a2, ne_put_drop, ne_bring_drop, ne_bend_drop, ne_forge_drop, ne_again_drop, ne_move_drop, ne_tick_drop, ne_drop_put, ne_drop_bring, ne_drop_bend, ne_drop_forge, ne_drop_again, ne_drop_move, ne_drop_tick, c']⟩
theorem ev_move {n : Nat} {many : Int} {ds : List PyData} (hn : n ≤ 38) (hd : Ly n (.tuple (.str "move" :: ds))) (hk : Wk (.tuple (.str "move" :: ds))) (hb : b ≤ st.length) (h : RD b st (.tuple (.str "move" :: ds)) x) : ∃ t, m__law_is_event [x, .int many] st = .ok (.bl (dWord many "move" ds)) (st ++ t) := by
  have i1 := isi_tup h
  have l1 := len_tup h
  have n0 : ¬ ((ds.length : Int) + 1 = 0) := by omega
  have a1 : ∀ s, oInT false (.str "move") (.tup [.str "bring", .str "drop", .str "tick"]) s = .ok (.bl false) s := fun s => by rw [in3 (by decide +kernel) lay1]; simp [ne_put_move, ne_bring_move, ne_bend_move, ne_forge_move, ne_again_move, ne_drop_move, ne_tick_move, ne_move_put, ne_move_bring, ne_move_bend, ne_move_forge, ne_move_again, ne_move_drop, ne_move_tick]
  have a2 : ∀ s, oInT true (.str "move") (.tup [.str "bend", .str "forge", .str "again"]) s = .ok (.bl true) s := fun s => by rw [in3 (by decide +kernel) lay2]; simp [ne_put_move, ne_bring_move, ne_bend_move, ne_forge_move, ne_again_move, ne_drop_move, ne_tick_move, ne_move_put, ne_move_bring, ne_move_bend, ne_move_forge, ne_move_again, ne_move_drop, ne_move_tick]
  have q : ∀ many ds, dWord many "move" ds = dMove many ds := fun many ds => rfl
  rw [q]
  obtain ⟨xs, rfl, hs'⟩ := RD.tup_iff.mp h
  obtain ⟨x0, xs, rfl, h0, hs⟩ := RDs.uncons hs'
  have : x0 = .str "move" := by rw [RD] at h0; exact h0
  subst this
  have s1 := isi_str h0
  by_cases c : ds.length = 2
  · obtain ⟨d0, d1, rfl⟩ := len2 c
    obtain ⟨y0, y1, rfl, g0, g1⟩ := RDs.two hs
    have l4 : one' oLen [.tup (.str "move" :: [y0, y1])] st = .ok (.int 3) st := l1
    clear l1
    have m0 := lnumber_int (z := many) g0
    have m1 := lnumber_non g1
    cases c0 : dBel many d0 with
    | false => exact ⟨[], by simp [m__law_is_event, runB, b__law_is_event, sSeq, i1, isTupD, l4, s1, isStrD, oEq_int, oEq_str, arr, ixt0, ixt1, ixt2, ixt3, a1, a2, ne_put_move, ne_bring_move, ne_bend_move, ne_forge_move, ne_again_move, ne_drop_move, ne_tick_move, ne_move_put, ne_move_bring, ne_move_bend, ne_move_forge, ne_move_again, ne_move_drop, ne_move_tick, m0, c0, dMove]⟩
    | true => exact ⟨[], by simp [m__law_is_event, runB, b__law_is_event, sSeq, i1, isTupD, l4, s1, isStrD, oEq_int, oEq_str, arr, ixt0, ixt1, ixt2, ixt3, a1, a2, ne_put_move, ne_bring_move, ne_bend_move, ne_forge_move, ne_again_move, ne_drop_move, ne_tick_move, ne_move_put, ne_move_bring, ne_move_bend, ne_move_forge, ne_move_again, ne_move_drop, ne_move_tick, m0, c0, m1, dMove]⟩
  · have e : dMove many ds = false := by
      unfold dMove
      split
      · simp at c
      · rfl
    have c' : ¬ ((ds.length : Int) + 1 = 3) := by omega
    exact ⟨[], by rw [e]; simp [m__law_is_event, runB, b__law_is_event, sSeq, i1, isTupD, l1, s1, isStrD, oEq_int, oEq_str, arr, ixt0, ixt1, ixt2, ixt3, n0, a1, a2, ne_put_move, ne_bring_move, ne_bend_move, ne_forge_move, ne_again_move, ne_drop_move, ne_tick_move, ne_move_put, ne_move_bring, ne_move_bend, ne_move_forge, ne_move_again, ne_move_drop, ne_move_tick, c']⟩
theorem ev_tick {n : Nat} {many : Int} {ds : List PyData} (hn : n ≤ 38) (hd : Ly n (.tuple (.str "tick" :: ds))) (hk : Wk (.tuple (.str "tick" :: ds))) (hb : b ≤ st.length) (h : RD b st (.tuple (.str "tick" :: ds)) x) : ∃ t, m__law_is_event [x, .int many] st = .ok (.bl (dWord many "tick" ds)) (st ++ t) := by
  have i1 := isi_tup h
  have l1 := len_tup h
  have n0 : ¬ ((ds.length : Int) + 1 = 0) := by omega
  have a1 : ∀ s, oInT false (.str "tick") (.tup [.str "bring", .str "drop", .str "tick"]) s = .ok (.bl true) s := fun s => by rw [in3 (by decide +kernel) lay1]; simp [ne_put_tick, ne_bring_tick, ne_bend_tick, ne_forge_tick, ne_again_tick, ne_drop_tick, ne_move_tick, ne_tick_put, ne_tick_bring, ne_tick_bend, ne_tick_forge, ne_tick_again, ne_tick_drop, ne_tick_move]
  have a2 : ∀ s, oInT true (.str "tick") (.tup [.str "bend", .str "forge", .str "again"]) s = .ok (.bl true) s := fun s => by rw [in3 (by decide +kernel) lay2]; simp [ne_put_tick, ne_bring_tick, ne_bend_tick, ne_forge_tick, ne_again_tick, ne_drop_tick, ne_move_tick, ne_tick_put, ne_tick_bring, ne_tick_bend, ne_tick_forge, ne_tick_again, ne_tick_drop, ne_tick_move]
  have q : ∀ many ds, dWord many "tick" ds = dOne ds := fun many ds => rfl
  rw [q]
  obtain ⟨xs, rfl, hs'⟩ := RD.tup_iff.mp h
  obtain ⟨x0, xs, rfl, h0, hs⟩ := RDs.uncons hs'
  have : x0 = .str "tick" := by rw [RD] at h0; exact h0
  subst this
  have s1 := isi_str h0
  by_cases c : ds.length = 1
  · obtain ⟨d0, rfl⟩ := len1 c
    obtain ⟨y0, rfl, g0⟩ := RDs.one hs
    have l4 : one' oLen [.tup (.str "tick" :: [y0])] st = .ok (.int 2) st := l1
    clear l1
    have m0 := lnumber_non g0
    exact ⟨[], by simp [m__law_is_event, runB, b__law_is_event, sSeq, i1, isTupD, l4, s1, isStrD, oEq_int, oEq_str, arr, ixt0, ixt1, ixt2, ixt3, a1, a2, ne_put_tick, ne_bring_tick, ne_bend_tick, ne_forge_tick, ne_again_tick, ne_drop_tick, ne_move_tick, ne_tick_put, ne_tick_bring, ne_tick_bend, ne_tick_forge, ne_tick_again, ne_tick_drop, ne_tick_move, m0, dOne]⟩
  · have e : dOne ds = false := by
      unfold dOne
      split
      · simp at c
      · rfl
    have c' : ¬ ((ds.length : Int) + 1 = 2) := by omega
    exact ⟨[], by rw [e]; simp [m__law_is_event, runB, b__law_is_event, sSeq, i1, isTupD, l1, s1, isStrD, oEq_int, oEq_str, arr, ixt0, ixt1, ixt2, ixt3, n0, a1, a2, ne_put_tick, ne_bring_tick, ne_bend_tick, ne_forge_tick, ne_again_tick, ne_drop_tick, ne_move_tick, ne_tick_put, ne_tick_bring, ne_tick_bend, ne_tick_forge, ne_tick_again, ne_tick_drop, ne_tick_move, c']⟩
theorem lis_event_ok {n : Nat} {many : Int} (hn : n ≤ 38) (hd : Ly n d) (hk : Wk d) (hb : b ≤ st.length) (h : RD b st d x) : ∃ t, m__law_is_event [x, .int many] st = .ok (.bl (dEv many d)) (st ++ t) := by
  have i1 := isi_tup h
  cases d with
  | tuple ds =>
    cases ds with
    | nil =>
      have l1 := len_tup h
      exact ⟨[], by simp [m__law_is_event, runB, b__law_is_event, arr, sSeq, h.getV, i1, isTupD, l1, oEq_int, dEv]⟩
    | cons d0 ds =>
      have l1 := len_tup h
      have n0 : ¬ ((ds.length : Int) + 1 = 0) := by omega
      have h' := h
      obtain ⟨xs, rfl, hs⟩ := RD.tup_iff.mp h
      obtain ⟨x0, xs, rfl, h0, hs⟩ := RDs.uncons hs
      have s1 := isi_str h0
      cases c : isStrD d0 with
      | false =>
        have e : dEv many (.tuple (d0 :: ds)) = false := by
          cases d0 <;> first | rfl | (simp [isStrD] at c)
        exact ⟨[], by simp [m__law_is_event, runB, b__law_is_event, arr, sSeq, i1, isTupD, l1, oEq_int, n0, ixt0, h0.getV, s1, c, e]⟩
      | true =>
        have ⟨w, e⟩ : ∃ w, d0 = .str w := by cases d0 <;> first | exact ⟨_, rfl⟩ | (simp [isStrD] at c)
        subst e
        by_cases q : w = "put" ∨ w = "bring" ∨ w = "bend" ∨ w = "forge" ∨ w = "again" ∨ w = "drop" ∨ w = "move" ∨ w = "tick"
        · rcases q with rfl | rfl | rfl | rfl | rfl | rfl | rfl | rfl
          · exact ev_put hn hd hk hb h'
          · exact ev_bring hn hd hk hb h'
          · exact ev_bend hn hd hk hb h'
          · exact ev_forge hn hd hk hb h'
          · exact ev_again hn hd hk hb h'
          · exact ev_drop hn hd hk hb h'
          · exact ev_move hn hd hk hb h'
          · exact ev_tick hn hd hk hb h'
        · rcases lookLK w with ⟨_, e⟩ | q2
          · have : x0 = .str w := by rw [RD] at h0; exact h0
            subst this
            have lw : PyData.canLay0 (.str w) = true := (hd.parts (.str w) (by simp)).1
            simp only [not_or] at q
            obtain ⟨q1, q2, q3, q4, q5, q6, q7, q8⟩ := q
            have a1 : ∀ s, oInT false (.str w) (.tup [.str "bring", .str "drop", .str "tick"]) s = .ok (.bl false) s := fun s => by rw [in3 lw lay1]; simp [Ne.symm q2, Ne.symm q6, Ne.symm q8]
            have a2 : ∀ s, oInT true (.str w) (.tup [.str "bend", .str "forge", .str "again"]) s = .ok (.bl true) s := fun s => by rw [in3 lw lay2]; simp [Ne.symm q3, Ne.symm q4, Ne.symm q5]
            exact ⟨[], by simp [m__law_is_event, runB, b__law_is_event, arr, sSeq, i1, isTupD, l1, oEq_int, oEq_str, n0, ixt0, s1, isStrD, a1, a2, q1, q7, dEv, e]⟩
          · exact absurd q2 q
  | _ => exact ⟨[], by simp [m__law_is_event, runB, b__law_is_event, arr, sSeq, h.getV, i1, isTupD, dEv]⟩
end
end Lw

/-! k73, the plain law: what is due. -/
namespace Lw
open PySem L2 Sm
def failsF (p : PyData → Bool) : Nat → List PyData → List Int
  | _, [] => []
  | k, d :: r => if p d = false then (k : Int) :: failsF p (k + 1) r else failsF p (k + 1) r
theorem failsF_snoc (p : PyData → Bool) (d : PyData) : ∀ (a : List PyData) (k : Nat), failsF p k (a ++ [d]) = failsF p k a ++ (if p d = false then [((k + a.length : Nat) : Int)] else [])
  | [], k => by simp [failsF]
  | x :: a, k => by
    simp only [List.cons_append, failsF, failsF_snoc p d a (k + 1), List.length_cons]
    have e : k + 1 + a.length = k + (a.length + 1) := by omega
    rw [e]
    split <;> simp
theorem firstF_fails (p : PyData → Bool) : ∀ (ds : List PyData) (k : Nat), (firstF p k ds).map (fun (a : Nat) => (a : Int)) = (failsF p k ds).head?
  | [], k => rfl
  | d :: r, k => by
    unfold firstF failsF
    split
    · rfl
    · exact firstF_fails p r (k + 1)
theorem failsF_len (p : PyData → Bool) : ∀ (ds : List PyData) (k : Nat), (failsF p k ds).length ≤ ds.length
  | [], k => by simp [failsF]
  | d :: r, k => by
    have := failsF_len p r (k + 1)
    unfold failsF
    split <;> simp <;> omega
def itF : Nat → List PyData → List Val
  | _, [] => []
  | k, _ :: r => .int (k : Int) :: itF (k + 1) r
theorem itF_range (ds : List PyData) (k : Nat) : itF k ds = (List.range ds.length).map fun (i : Nat) => Val.int ((k + i : Nat) : Int) := by
  induction ds generalizing k with
  | nil => rfl
  | cons d r ih =>
    rw [List.length_cons, List.range_succ_eq_map, List.map_cons, List.map_map, itF, ih]
    congr 1
    refine List.map_congr_left fun i _ => ?_
    simp only [Function.comp]
    congr 1
    omega
theorem pre_set {st s : Sto} {L : Nat} {o : Ob} (h : st <+: s) (hL : st.length ≤ L) : st <+: s.set L o := by
  obtain ⟨t, rfl⟩ := h
  rw [List.set_append_right _ _ hL]
  exact ⟨_, rfl⟩
theorem pre_len {st s : Sto} (h : st <+: s) : st.length ≤ s.length := by obtain ⟨t, rfl⟩ := h; simp
section
variable {b : Nat} {st : Sto} {d : PyData} {x : Val}
def Wks (ds : List PyData) : Prop := ∀ d ∈ ds, Wk d
theorem ints_ly (ns : List Int) : Lys 1 (ns.map PyData.int) := fun d hd => by
  obtain ⟨i, _, rfl⟩ := List.mem_map.mp hd
  exact ⟨by simp [PyData.canLay0], by simp [PyData.depth]⟩
theorem due_ok {n : Nat} {many : Int} (hn : n ≤ 38) (hd : Ly n d) (hk : ∀ ds, d = .tuple ds → Wks ds ∧ ds.length < 16777216) (hb : b ≤ st.length) (h : RD b st d x) : Wp (m__law_due [x, .int many] st) (fun v s => st <+: s ∧ RD b s (dHeard (dSc many d)) v) noX := by
  have i1 := isi_tup h
  cases d with
  | tuple ds =>
    have l1 := len_tup h
    obtain ⟨k1, k2⟩ := hk ds rfl
    have hl := hd.parts
    have c0 : ∀ e2 e3, (tNot' (tVal (eCall (two' oIsi) (aCons (eVar 0) (aCons (eC (.ty "tuple")) aNil))))) [some x, some (.int many), e2, e3] st = .ok false st := fun e2 e3 => by simp [h.getV, i1, isTupD]
    unfold m__law_due b__law_due
    rw [Wp_run, WpS_seq]
    simp only [List.map_cons, List.map_nil, List.length_cons, List.length_nil, List.cons_append, List.nil_append, List.replicate]
    rw [W_sif, c0, Wp_ok]
    simp only [Bool.false_eq_true, if_false, W_nil]
    rw [WpS_seq, W_asg, W_lc]
    have r1 : iRange1 (eCall (one' oLen) (aCons (eVar 0) aNil)) [some x, some (.int many), none, none] st = .ok (itF 0 ds, []) st := by
      rw [iRange1_ok (z := ds.length) (k := ds.length) (st1 := st) (by simp [h.getV, l1]) rfl (by omega), itF_range]
      simp
    rw [r1, Wp_ok]
    have w1 : wipeE [some x, some (.int many), none, none] [3] = [some x, some (.int many), none, none] := rfl
    simp only [w1]
    refine lcL_wp (fun xs acc s => ∃ pre r, ds = pre ++ r ∧ xs = itF pre.length r ∧ st <+: s ∧ s[st.length]? = some (.lst acc) ∧ acc = ivs (failsF (dEv many) 0 pre)) (fun _ _ _ _ => by simp) (fun acc s ⟨pre, r, e, ex, hp, h1, ea⟩ => ?h0) (fun y r acc s ⟨pre, rs, e, ex, hp, h1, ea⟩ => ?hs) _ [] _ ⟨[], ds, rfl, rfl, pre_app _, at_new, rfl⟩
    case h0 =>
      have : r = [] := by cases r <;> first | rfl | cases ex
      subst this
      rw [List.append_nil] at e
      subst e
      simp only [List.set_cons_succ, List.set_cons_zero]
      have hbl : b ≤ st.length := hb
      have R1 : RD b (s ++ [Ob.lst []]) (.list ((failsF (dEv many) 0 ds).map PyData.int)) (.loc st.length) := .lst hbl (pre_at (pre_app _) (by rw [h1, ea])) .ints
      have R2 : RD b (s ++ [Ob.lst []]) (.list []) (.loc s.length) := .lst (by have := pre_len hp; omega) at_new .nil
      obtain ⟨s1, s2⟩ := (ints_ly (failsF (dEv many) 0 ds)).list (by decide)
      have e := eq_rd (neg := true) R1 R2 s1 (by decide) s2 (by decide)
      rw [eqv_nil] at e
      simp only [W_ret, W_if, W_tVal, W_op, W_var, W_lst, W_aNil, List.getElem?_cons_zero, List.getElem?_cons_succ, getV_loc, Wp_ok, e, List.length_nil, Nat.zero_le, true_and]
      refine ⟨_, rfl, ?_⟩
      have hs1 : dSc many (.tuple ds) = (failsF (dEv many) 0 ds).head? := firstF_fails _ _ _
      rw [hs1]
      cases q : failsF (dEv many) 0 ds with
      | nil =>
        simp only [List.map_nil, List.isEmpty_nil, Bool.not_true, if_true, Bool.false_eq_true, if_false, W_C, List.head?_nil, dHeard]
        exact ⟨hp.trans (pre_app _), .non⟩
      | cons z zs =>
        have i0 : oIx (.loc st.length) (.int 0) (s ++ [Ob.lst []]) = .ok (.int z) (s ++ [Ob.lst []]) := by
          have := pre_at (pre_app [Ob.lst []]) h1
          rw [ea, q] at this
          simp [oIx, seqOf, this, atI_zero]
        simp only [List.map_cons, List.isEmpty_cons, Bool.not_false, if_true, W_lst, W_aCons, W_op, W_var, W_C, W_aNil, List.getElem?_cons_zero, List.getElem?_cons_succ, getV_loc, Wp_ok, i0, List.head?_cons, dHeard, List.length_cons, List.length_nil]
        refine ⟨by decide, hp.trans ((pre_app _).trans (pre_app _)), .lst ?_ at_new (.cons .int (.cons .bl .nil))⟩
        have := pre_len hp
        simp
        omega
    case hs =>
      obtain ⟨d0, r2, rfl⟩ : ∃ d0 r2, rs = d0 :: r2 := by cases rs <;> first | exact ⟨_, _, rfl⟩ | cases ex
      rw [itF] at ex
      injection ex with ex1 ex2
      subst ex1
      have hlen : ds.length = pre.length + (r2.length + 1) := by rw [e]; simp
      have hacc : acc.length < 16777216 := by
        rw [ea, ivs_length]
        have := failsF_len (dEv many) pre 0
        omega
      refine ⟨hacc, _, rfl, ?_⟩
      have hget : ds[pre.length]? = some d0 := by rw [e]; simp
      have hmem : d0 ∈ ds := List.mem_of_getElem? hget
      obtain ⟨y, hy, iy⟩ := ix_tup (h.pre hp) hget
      obtain ⟨t, ev⟩ := lis_event_ok (many := many) hn (hl d0 hmem) (k1 d0 hmem) (Nat.le_trans hb (pre_len hp)) hy
      have T1 : (tNot' (tVal (eCallF m__law_is_event [.inl 0, .inl 1] [] (aCons (eOp oIx (eVar 0) (eVar 3)) (aCons (eVar 1) aNil))))) [some x, some (.int many), none, some (.int (pre.length : Int))] s = .ok (!dEv many d0) (s ++ t) := by
        simp [h.getV, iy, arr, ev]
      have g1 : (gNm 3 : Gx) (.int (pre.length : Int)) [some x, some (.int many), none, none] = some [some x, some (.int many), none, some (.int (pre.length : Int))] := rfl
      simp only [List.set_cons_succ, List.set_cons_zero]
      rw [T1, Wp_ok]
      have hp2 : st <+: s ++ t := hp.trans (pre_app t)
      have h2 : (s ++ t)[st.length]? = some (.lst acc) := pre_at (pre_app t) h1
      have e' : ds = (pre ++ [d0]) ++ r2 := by rw [e]; simp
      have ex2' : r = itF (pre ++ [d0]).length r2 := by rw [ex2]; simp
      cases c : dEv many d0 with
      | true =>
        simp only [Bool.not_true, Bool.false_eq_true, if_false]
        exact ⟨pre ++ [d0], r2, e', ex2', hp2, h2, by rw [ea, failsF_snoc, c]; simp⟩
      | false =>
        simp only [Bool.not_false, if_true, W_var, List.getElem?_cons_succ, List.getElem?_cons_zero, getV_int, Wp_ok]
        refine ⟨h2, pre ++ [d0], r2, e', ex2', pre_set hp2 (Nat.le_refl _), List.getElem?_set_self (List.getElem?_eq_some_iff.mp h2).1, ?_⟩
        rw [ea, failsF_snoc, c, ivs_append]
        simp
  | _ =>
    have e : m__law_due [x, .int many] st = .ok (.loc st.length) (st ++ [Ob.lst [.int (-1), .bl true]]) := by
      simp [m__law_due, runB, b__law_due, sSeq, h.getV, i1, isTupD, oInt_eq]
    rw [e, Wp_ok]
    exact ⟨pre_app _, .lst hb at_new (.cons .int (.cons .bl .nil))⟩
end
end Lw

/-! k73, the plain law: draws. -/
local macro_rules | `(tactic| wtm_at "wp") => `(tactic| simp only [Sm.WpS_seq, Sm.W_nil, Sm.W_ret, Sm.W_retN, Sm.W_drop, Sm.W_sif, Sm.W_asg, Sm.W_par, Sm.W_par3, Sm.W_C, Sm.W_var, Sm.W_op, Sm.W_un, Sm.W_and, Sm.W_or, Sm.W_not, Sm.W_tVal, Sm.W_tAnd, Sm.W_tOr, Sm.W_tNot, Sm.W_tYes, Sm.W_if, Sm.W_aNil, Sm.W_aCons, Sm.W_aApp, Sm.W_tup, Sm.W_lst, Sm.W_call, Sm.W_callF, Sm.W_lm, Sm.W_sl, Sm.W_noP, Sm.W_part, Sm.W_rev, Sm.Wp_ok, List.getElem?_cons_zero, List.getElem?_cons_succ, Sm.getV_loc, Sm.getV_int, Sm.getV_tup, Sm.getV_str, Sm.getV_non, Sm.getV_bl, Sm.arr, List.map_cons, List.map_nil, List.getD_cons_zero, List.getD_cons_succ, List.set_cons_zero, List.set_cons_succ, List.cons_append, List.nil_append, List.length_cons, List.length_nil, List.replicate, Nat.reduceSub, Nat.reduceAdd])
namespace Lw
open PySem L2 Sm
theorem draw_ok : AnyOk m__law_draw := anyOk (a := 48271) (b := 13) (e := 64) (by decide) (by decide) (by decide) (by decide) (by decide)
section
variable {b d c : Nat} {st : Sto} {Q : Val → Sto → Prop} {E : Xn → Sto → Prop}
theorem dr {bound : Int} (h : HS b d c st) (h1 : 0 < bound) (h2 : bound < 2 ^ 200) (k : ∀ r s, 0 ≤ r → r < bound → HS b d c s → Gr b st s → Q (.int r) s) : Wp (m__law_draw [.loc d, .int bound] st) Q E := draw_wp draw_ok h h1 h2 k
/-- a pick of a list just made -/
theorem pk {xs : List Val} (h : HS b d c st) (hx : xs ≠ []) (hz : xs.length < 16777216) (k : ∀ v s, v ∈ xs → HS b d c s → Gr b (st ++ [Ob.lst xs]) s → Q v s) : Wp (m__law_pick [.loc d, .loc st.length] (st ++ [Ob.lst xs])) Q E :=
  pick_wp draw_ok (h.app _) at_new h.hb hx hz k
theorem octets_ok {k : Nat} {z : Int} (h : HS b d c st) (hz : z = (k : Int)) (hk : k ≤ 1000) (kq : ∀ bs s, Oct bs → bs.length = k → HS b d c s → Gr b st s → Q (.tup (ivs bs)) s) : Wp (m__law_octets [.loc d, .int z] st) Q E := by
  unfold m__law_octets b__law_octets
  rw [Wp_run]
  simp only [W_ret, W_call, W_aCons, W_lc, List.map_cons, List.map_nil, List.length_cons, List.length_nil, List.cons_append, List.nil_append, List.replicate]
  rw [iRange1_ok (z := z) (k := k) (st1 := st) rfl hz (by omega), Wp_ok]
  refine lcL_wp (fun xs acc s => HS b d c s ∧ Gr b st s ∧ s[st.length]? = some (.lst acc) ∧ ∃ bs, acc = ivs bs ∧ Oct bs ∧ bs.length + xs.length = k) (fun _ _ _ _ => by simp) (fun acc s ⟨hs, g, h1, bs, ea, ho, hl⟩ => ?h0) (fun y r acc s ⟨hs, g, h1, bs, ea, ho, hl⟩ => ?hs) _ [] _ ⟨h.app _, .app _, at_new, [], rfl, fun _ h => (by cases h), by simp⟩
  case h0 =>
    subst ea
    have t1 : oTuple (.loc st.length) s = .ok (.tup (ivs bs)) s := by simp [oTuple, tupOf, lstOf, h1]
    simp only [W_aNil, one', t1, Wp_ok]
    exact kq bs s ho (by simpa using hl) hs g
  case hs =>
    subst ea
    simp only [List.length_cons] at hl
    refine ⟨by rw [ivs_length]; omega, _, rfl, ?_⟩
    simp only [W_tYes, if_true]
    have w1 : wipeE [some (.loc d), some (.int z), none] [2] = [some (.loc d), some (.int z), none] := rfl
    wtm_at "wp"
    simp only [w1, List.set_cons_zero, List.set_cons_succ, List.getElem?_cons_zero, getV_loc, Wp_ok]
    refine dr hs (by decide) (by decide) fun r1 s1 a1 a2 hs1 g1 => ?_
    refine dr hs1 (by decide) (by decide) fun r2 s2 b1 b2 hs2 g2 => ?_
    refine ⟨by decide, pk hs2 (by simp) (by simp) fun v s3 hv hs3 g3 => ?_⟩
    have hst : b ≤ st.length := h.hb
    have e3 := g3.at hst ((Gr.app (b := b) [_]).at hst (g2.at hst (g1.at hst h1)))
    have gg : Gr b st s3 := ((g.trans g1).trans g2).trans ((Gr.app [_]).trans g3)
    obtain ⟨z', rfl, hz'⟩ : ∃ z', v = .int z' ∧ 0 ≤ z' ∧ z' < 256 := by
      simp only [List.mem_cons, List.not_mem_nil, or_false] at hv
      rcases hv with rfl | rfl | rfl | rfl | rfl | rfl <;> exact ⟨_, rfl, by omega, by omega⟩
    refine ⟨e3, hs3.setNew hst, gg.setNew (Nat.le_refl _), List.getElem?_set_self (List.getElem?_eq_some_iff.mp e3).1, bs ++ [z'], by rw [ivs_append]; rfl, fun y hy => ?_, by simp; omega⟩
    rcases List.mem_append.mp hy with w | w
    · exact ho y w
    · rw [List.mem_singleton.mp w]; exact hz'
end
end Lw

/-! k73, the plain law: events drawn. -/
local macro_rules | `(tactic| wtm_at "wp") => `(tactic| simp only [Sm.WpS_seq, Sm.W_nil, Sm.W_ret, Sm.W_retN, Sm.W_drop, Sm.W_sif, Sm.W_asg, Sm.W_par, Sm.W_par3, Sm.W_C, Sm.W_var, Sm.W_op, Sm.W_un, Sm.W_and, Sm.W_or, Sm.W_not, Sm.W_tVal, Sm.W_tAnd, Sm.W_tOr, Sm.W_tNot, Sm.W_tYes, Sm.W_if, Sm.W_aNil, Sm.W_aCons, Sm.W_aApp, Sm.W_tup, Sm.W_lst, Sm.W_call, Sm.W_callF, Sm.W_lm, Sm.W_sl, Sm.W_noP, Sm.W_part, Sm.W_rev, Sm.Wp_ok, List.getElem?_cons_zero, List.getElem?_cons_succ, Sm.getV_loc, Sm.getV_int, Sm.getV_tup, Sm.getV_str, Sm.getV_non, Sm.getV_bl, Sm.arr, List.map_cons, List.map_nil, List.getD_cons_zero, List.getD_cons_succ, List.set_cons_zero, List.set_cons_succ, List.cons_append, List.nil_append, List.length_cons, List.length_nil, List.replicate, Nat.reduceSub, Nat.reduceAdd, Nat.reduceLeDiff, true_and])
namespace Lw
open PySem L2 Sm
theorem sml_put : Sml 1 100 (.str "put") := .str (by decide +kernel) (by decide +kernel) (by decide +kernel)
theorem sml_bring : Sml 1 100 (.str "bring") := .str (by decide +kernel) (by decide +kernel) (by decide +kernel)
theorem sml_bend : Sml 1 100 (.str "bend") := .str (by decide +kernel) (by decide +kernel) (by decide +kernel)
theorem sml_forge : Sml 1 100 (.str "forge") := .str (by decide +kernel) (by decide +kernel) (by decide +kernel)
theorem sml_again : Sml 1 100 (.str "again") := .str (by decide +kernel) (by decide +kernel) (by decide +kernel)
theorem sml_drop : Sml 1 100 (.str "drop") := .str (by decide +kernel) (by decide +kernel) (by decide +kernel)
theorem sml_move : Sml 1 100 (.str "move") := .str (by decide +kernel) (by decide +kernel) (by decide +kernel)
theorem sml_tick : Sml 1 100 (.str "tick") := .str (by decide +kernel) (by decide +kernel) (by decide +kernel)
theorem sml_Put : Sml 1 100 (.str "Put") := .str (by decide +kernel) (by decide +kernel) (by decide +kernel)
theorem sml_e : Sml 1 100 (.str "") := .str (by decide +kernel) (by decide +kernel) (by decide +kernel)
theorem lay3 : PyData.canLayAll0 ([("bring" : Str), "drop"].map PyData.str) = true := by decide +kernel
theorem in2 {neg : Bool} {w a1 a2 : Str} {st : Sto} (h1 : PyData.canLay0 (.str w) = true) (h2 : PyData.canLayAll0 ([a1, a2].map PyData.str) = true) : oInT neg (.str w) (.tup [.str a1, .str a2]) st = .ok (.bl (if neg then !(decide (a1 = w) || (decide (a2 = w) || false)) else (decide (a1 = w) || (decide (a2 = w) || false)))) st := oInT_strs (ws := [a1, a2]) h1 h2
theorem Wp_eqstr (a b : Str) (st : Sto) (Q : Val → Sto → Prop) (E : Xn → Sto → Prop) : Wp (oEq false (.str a) (.str b) st) Q E = Q (.bl (decide (a = b))) st := propext Iff.rfl
theorem bulk_len : ∀ {ds : List PyData} {m : Nat}, PyData.bulkAll ds ≤ m → ds.length ≤ m ∧ ∀ d ∈ ds, d.bulk ≤ m
  | [], m, _ => ⟨by simp, fun d h => by cases h⟩
  | x :: r, m, h => by
    simp only [PyData.bulkAll] at h
    obtain ⟨h1, h2⟩ := bulk_len (ds := r) (m := m - 1 - x.bulk) (by omega)
    refine ⟨by simp only [List.length_cons]; omega, fun d hd => ?_⟩
    rcases List.mem_cons.mp hd with rfl | hd
    · omega
    · have := h2 d hd; omega
theorem wk_of {n m : Nat} {d : PyData} (h : Sml n m d) (hm : m < 16777216) : Wk d := fun ds e => by
  subst e
  have h1 := h.sb.b
  simp only [PyData.bulk] at h1
  obtain ⟨h2, h3⟩ := bulk_len h1
  refine ⟨by omega, fun es he => ?_⟩
  have h4 := h3 _ he
  simp only [PyData.bulk] at h4
  obtain ⟨h5, h6⟩ := bulk_len h4
  refine ⟨by omega, fun fs hf => ?_⟩
  have h7 := h6 _ hf
  simp only [PyData.bulk] at h7
  have := (bulk_len h7).1
  omega
theorem Sml.ly {n m : Nat} {d : PyData} (h : Sml n m d) : Ly n d := ⟨h.lay, h.sb.dp⟩
/-- an event's data -/
structure EvD (many : Int) (d : PyData) : Prop where
  ev : dEv many d = true
  sm : Sml 5 2000 d
  nl : nol d = true
  tp : ∃ ds, d = .tuple ds ∧ ds ≠ [] ∧ ds.length ≤ 4
section
variable {b d c : Nat} {st : Sto} {Q : Val → Sto → Prop} {E : Xn → Sto → Prop}
theorem sml_oct {bs : List Int} (h : Oct bs) (hl : bs.length ≤ 1000) : Sml 2 1000 (.tuple (bs.map PyData.int)) := (Sml.tup (Smls.ints fun x hx => ⟨(h x hx).1, by have := (h x hx).2; omega⟩)).mono (by omega) hl
theorem doct_ints {bs : List Int} (h : Oct bs) : (bs.map PyData.int).all (dBel 256) = true := by
  rw [List.all_map, List.all_eq_true]
  intro x hx
  simp [dBel, (h x hx).1, (h x hx).2]
def letD (a1 a2 : Int) (bs : List Int) : PyData := .tuple [.int a1, .int a2, .tuple (bs.map PyData.int)]
theorem letD_ok {a1 a2 : Int} {bs : List Int} (h1 : 0 ≤ a1 ∧ a1 < 4294967296) (h2 : 0 ≤ a2 ∧ a2 < 4294967296) (h : Oct bs) (hl : bs.length ≤ 1000) : dLet (letD a1 a2 bs) = true ∧ Sml 4 1200 (letD a1 a2 bs) ∧ nol (letD a1 a2 bs) = true := by
  refine ⟨?_, ?_, by simp [letD, nol, nols, nols_ints]⟩
  · have e1 : dBel 4294967296 (.int a1) = true := by simp [dBel, h1]
    have e2 : dBel 4294967296 (.int a2) = true := by simp [dBel, h2]
    have e3 : decide ((bs.map PyData.int).length ≤ 65535) = true := decide_eq_true (by rw [List.length_map]; omega)
    show (dBel 4294967296 (.int a1) && dBel 4294967296 (.int a2) && (bs.map PyData.int).all (dBel 256) && decide ((bs.map PyData.int).length ≤ 65535)) = true
    rw [e1, e2, e3, doct_ints h]; rfl
  · refine (Sml.tup (Smls.cons' ((Sml.int h1.1 (by omega)).mono (n' := 3) (by omega) (Nat.le_refl _)) (Smls.cons' ((Sml.int h2.1 (by omega)).mono (n' := 3) (by omega) (Nat.le_refl _)) (Smls.cons' ((sml_oct h hl).mono (by omega) (Nat.le_refl _)) (Smls.nil.mono (by omega) (Nat.le_refl _)))))).mono (by omega) (by omega)
theorem letter_ok (h : HS b d c st) (k : ∀ a1 a2 bs v s, 0 ≤ a1 ∧ a1 < 4294967296 → 0 ≤ a2 ∧ a2 < 4294967296 → Oct bs → bs.length ≤ 7 → v = .tup [.int a1, .int a2, .tup (ivs bs)] → HS b d c s → Gr b st s → Q v s) : Wp (m__law_letter [.loc d] st) Q E := by
  unfold m__law_letter b__law_letter
  rw [Wp_run, WpS_seq, W_asg]
  simp only [List.map_cons, List.map_nil, List.length_cons, List.length_nil, List.cons_append, List.nil_append, List.replicate]
  refine lc_draws (b := b) (d := d) (c := c) (st1 := st) (items := [.int 0, .int 1]) (fun d => ∃ z : Int, d = .int z ∧ 0 ≤ z ∧ z < 4294967296) (fun d ⟨z, e, _⟩ => by subst e; rfl) (rng2 _ st) (fun p hp => by cases hp) h (by simp) (fun x s hx hs g => ?_) fun ds xs s hs g h1 hd hn hP => ?_
  · have w1 : wipeE [some (.loc d), none, none] [2] = [some (.loc d), none, none] := rfl
    rw [w1]
    wtm_at "wp"
    refine pk hs (by simp) (by simp) fun v s3 hv hs3 g3 => ⟨hs3, (Gr.app _).trans g3, ?_⟩
    simp only [List.mem_cons, List.not_mem_nil, or_false] at hv
    rcases hv with rfl | rfl | rfl | rfl <;> exact ⟨_, ⟨_, rfl, by omega, by omega⟩, .int⟩
  · match ds, hn with
    | [d1, d2], _ =>
      obtain ⟨a1, rfl, p1⟩ := hP d1 (by simp)
      obtain ⟨a2, rfl, p2⟩ := hP d2 (by simp)
      obtain ⟨x1, x2, rfl, q1, q2⟩ := RDs.two hd
      have := RD.int_of q1
      subst this
      have := RD.int_of q2
      subst this
      have i0 : oIx (.loc st.length) (.int 0) s = .ok (.int a1) s := by simp [oIx, seqOf, h1, atI_zero]
      have i1 : oIx (.loc st.length) (.int 1) s = .ok (.int a2) s := by simp [oIx, seqOf, h1, atI_one]
      wtm_at "wp"
      simp only [i0, i1, Wp_ok]
      refine pk hs (by simp) (by simp) fun v s3 hv hs3 g3 => ?_
      obtain ⟨z, n, rfl, hz, hn⟩ : ∃ (z : Int) (n : Nat), v = .int z ∧ z = (n : Int) ∧ n ≤ 7 := by
        simp only [List.mem_cons, List.not_mem_nil, or_false] at hv
        rcases hv with rfl | rfl | rfl | rfl | rfl
        · exact ⟨0, 0, rfl, rfl, by omega⟩
        · exact ⟨1, 1, rfl, rfl, by omega⟩
        · exact ⟨5, 5, rfl, rfl, by omega⟩
        · exact ⟨6, 6, rfl, rfl, by omega⟩
        · exact ⟨7, 7, rfl, rfl, by omega⟩
      refine octets_ok (k := n) hs3 hz (by omega) fun bs s4 ho hl hs4 g4 => ?_
      exact k a1 a2 bs _ s4 p1 p2 ho (by omega) rfl hs4 ((g.trans ((Gr.app _).trans g3)).trans g4)

/-- what an event's draws come to -/
theorem event_ok {many made : Int} (h : HS b d c st) (h1 : 0 < many) (h2 : many ≤ 3) (h3 : 0 ≤ made) (h4 : made < 10 ^ 20) (k : ∀ dv v s, EvD many dv → RD b s dv v → HS b d c s → Gr b st s → Q v s) : Wp (m__law_event [.loc d, .int many, .int made] st) Q E := by
  unfold m__law_event b__law_event
  rw [Wp_run, WpS_seq, W_asg]
  simp only [List.map_cons, List.map_nil, List.length_cons, List.length_nil, List.cons_append, List.nil_append, List.replicate, Nat.reduceSub, Nat.reduceAdd]
  wtm_at "wp"
  refine pk h (by simp) (by simp) fun v s1 hv hs1 g1 => ?_
  have g1' : Gr b st s1 := (Gr.app _).trans g1
  clear g1
  simp only [oAdd_int, Wp_ok]
  refine dr hs1 h1 (by omega) fun e s2 e1 e2 hs2 g2 => dr hs2 (by omega) (by omega) fun nu s3 n1 n2 hs3 g3 => pk hs3 (by simp) (by simp) fun pl s4 hpl hs4 g4 => ⟨_, _, _, rfl, ?_⟩
  have G4 : Gr b st s4 := ((g1'.trans g2).trans g3).trans ((Gr.app _).trans g4)
  clear g1' g2 g3 g4 hs1 hs2 hs3
  obtain ⟨p, rfl, hp1, hp2⟩ : ∃ p : Int, pl = .int p ∧ 0 ≤ p ∧ p < 100 := by
    simp only [List.mem_cons, List.not_mem_nil, or_false] at hpl
    rcases hpl with rfl | rfl | rfl | rfl <;> exact ⟨_, rfl, by omega, by omega⟩
  have hw : v = .str "put" ∨ v = .str "bring" ∨ v = .str "bend" ∨ v = .str "forge" ∨ v = .str "again" ∨ v = .str "drop" ∨ v = .str "move" ∨ v = .str "tick" := by
    simp only [List.mem_cons, List.not_mem_nil, or_false] at hv
    rcases hv with rfl | rfl | rfl | rfl | rfl | rfl | rfl | rfl | rfl | rfl | rfl | rfl | rfl <;> simp
  clear hv
  have smi : ∀ z : Int, 0 ≤ z → z < 10 ^ 30 → Sml 4 0 (.int z) := fun z a1 a2 => (Sml.int a1 (by omega)).mono (by omega) (Nat.le_refl _)
  have nil4 : Smls 4 0 [] := Smls.nil.mono (by omega) (Nat.le_refl _)
  rcases hw with rfl | rfl | rfl | rfl | rfl | rfl | rfl | rfl
  · have a1 : ∀ s, oInT false (.str "put") (.tup [.str "bring", .str "drop"]) s = .ok (.bl false) s := fun s => by rw [in2 (by decide +kernel) lay3]; simp [ne_bring_put, ne_bend_put, ne_forge_put, ne_again_put, ne_drop_put, ne_move_put, ne_tick_put]
    wtm_at "wp"
    simp only [Wp_eqstr, a1, Wp_ok, oAdd_int, ne_put_bring, ne_put_bend, ne_put_forge, ne_put_again, ne_put_drop, ne_put_move, ne_put_tick, decide_true, Val.bl.injEq, exists_eq_left', if_true, Bool.false_eq_true, if_false, true_and, List.length_cons, List.length_nil, Nat.reduceAdd, Nat.reduceLeDiff, List.map_cons, List.map_nil, List.getD_cons_zero, List.getD_cons_succ]
    refine letter_ok hs4 fun a1 a2 bs v s5 p1 p2 ho hl ev hs5 g5 => ?_
    subst ev
    obtain ⟨q1, q2, q3⟩ := letD_ok p1 p2 ho (by omega)
    refine k (.tuple [.str "put", .int e, letD a1 a2 bs]) _ s5 ⟨?_, ?_, ?_, _, rfl, by simp, by simp⟩ (.tup (.cons .str (.cons .int (.cons (.tup (.cons .int (.cons .int (.cons (.tup .ints) .nil)))) .nil)))) hs5 (G4.trans g5)
    · show dPut many [.int e, letD a1 a2 bs] = true
      simp [dPut, dBel, e1, e2, q1]
    · exact (Sml.tup (Smls.cons' (sml_put.mono (by omega) (Nat.le_refl _)) (Smls.cons' (smi e e1 (by omega)) (Smls.cons' q2 nil4)))).mono (by omega) (by omega)
    · simp [nol, nols, q3]
  · have a1 : ∀ s, oInT false (.str "bring") (.tup [.str "bring", .str "drop"]) s = .ok (.bl true) s := fun s => by rw [in2 (by decide +kernel) lay3]; simp [ne_put_bring, ne_bend_bring, ne_forge_bring, ne_again_bring, ne_drop_bring, ne_move_bring, ne_tick_bring]
    wtm_at "wp"
    simp only [Wp_eqstr, a1, Wp_ok, oAdd_int, ne_bring_put, ne_bring_bend, ne_bring_forge, ne_bring_again, ne_bring_drop, ne_bring_move, ne_bring_tick, decide_true, Val.bl.injEq, exists_eq_left', if_true, Bool.false_eq_true, if_false, true_and, List.length_cons, List.length_nil, Nat.reduceAdd, Nat.reduceLeDiff, List.map_cons, List.map_nil, List.getD_cons_zero, List.getD_cons_succ]
    refine dr hs4 (by decide) (by decide) fun r s5 r1 r2 hs5 g5 => ?_
    have fin : ∀ z : Int, 0 ≤ z → z < 10 ^ 25 → Q (.tup [.str "bring", .int z]) s5 := fun z z1 z2 => by
      refine k (.tuple [.str "bring", .int z]) _ s5 ⟨?_, ?_, ?_, _, rfl, by simp, by simp⟩ (.tup (.cons .str (.cons .int .nil))) hs5 (G4.trans g5)
      · show dOne [.int z] = true
        simp [dOne, dNum, z1]
      · exact (Sml.tup (Smls.cons' (sml_bring.mono (by omega) (Nat.le_refl _)) (Smls.cons' (smi z z1 (by omega)) nil4))).mono (by omega) (by omega)
      · simp [nol, nols]
    by_cases hr : 0 < r
    · simp only [oGt, oInt_eq, oSub, if_true, Wp_ok, hr, decide_true, Val.bl.injEq, exists_eq_left', two', oMax2]
      refine fin _ ?_ ?_ <;> (split <;> omega)
    · simp only [oGt, oInt_eq, if_true, Wp_ok, hr, decide_false, Val.bl.injEq, exists_eq_left', Bool.false_eq_true, if_false]
      exact fin _ n1 (by omega)
  · have a1 : ∀ s, oInT false (.str "bend") (.tup [.str "bring", .str "drop"]) s = .ok (.bl false) s := fun s => by rw [in2 (by decide +kernel) lay3]; simp [ne_put_bend, ne_bring_bend, ne_forge_bend, ne_again_bend, ne_drop_bend, ne_move_bend, ne_tick_bend]
    wtm_at "wp"
    simp only [Wp_eqstr, a1, Wp_ok, oAdd_int, ne_bend_put, ne_bend_bring, ne_bend_forge, ne_bend_again, ne_bend_drop, ne_bend_move, ne_bend_tick, decide_true, Val.bl.injEq, exists_eq_left', if_true, Bool.false_eq_true, if_false, true_and, List.length_cons, List.length_nil, Nat.reduceAdd, Nat.reduceLeDiff, List.map_cons, List.map_nil, List.getD_cons_zero, List.getD_cons_succ]
    refine dr hs4 (by decide) (by decide) fun r s5 r1 r2 hs5 g5 => dr hs5 (by decide) (by decide) fun q s6 q1 q2 hs6 g6 => ?_
    refine k (.tuple [.str "bend", .int nu, .int r, .int (1 + q)]) _ s6 ⟨?_, ?_, ?_, _, rfl, by simp, by simp⟩ (.tup (.cons .str (.cons .int (.cons .int (.cons .int .nil))))) hs6 ((G4.trans g5).trans g6)
    · show dBend [.int nu, .int r, .int (1 + q)] = true
      simp [dBend, dNum, dBy, n1, r1]
      omega
    · exact (Sml.tup (Smls.cons' (sml_bend.mono (by omega) (Nat.le_refl _)) (Smls.cons' (smi nu n1 (by omega)) (Smls.cons' (smi r r1 (by omega)) (Smls.cons' (smi (1 + q) (by omega) (by omega)) nil4))))).mono (by omega) (by omega)
    · simp [nol, nols]
  · have a1 : ∀ s, oInT false (.str "forge") (.tup [.str "bring", .str "drop"]) s = .ok (.bl false) s := fun s => by rw [in2 (by decide +kernel) lay3]; simp [ne_put_forge, ne_bring_forge, ne_bend_forge, ne_again_forge, ne_drop_forge, ne_move_forge, ne_tick_forge]
    wtm_at "wp"
    simp only [Wp_eqstr, a1, Wp_ok, oAdd_int, ne_forge_put, ne_forge_bring, ne_forge_bend, ne_forge_again, ne_forge_drop, ne_forge_move, ne_forge_tick, decide_true, Val.bl.injEq, exists_eq_left', if_true, Bool.false_eq_true, if_false, true_and, List.length_cons, List.length_nil, Nat.reduceAdd, Nat.reduceLeDiff, List.map_cons, List.map_nil, List.getD_cons_zero, List.getD_cons_succ]
    refine dr hs4 (by decide) (by decide) fun r s5 r1 r2 hs5 g5 => ?_
    obtain ⟨j, hj⟩ : ∃ j : Nat, r = (j : Int) := ⟨r.toNat, by omega⟩
    refine octets_ok (k := j) hs5 hj (by omega) fun bs s6 ho hl hs6 g6 => dr hs6 (by decide) (by decide) fun r2 s7 q1 q2 hs7 g7 => ?_
    have mul : ∀ s, oMul (.tup [.int 0]) (.int 16) s = .ok (.tup (ivs (List.replicate 16 0))) s := fun s => rfl
    have add : ∀ s, oAdd (.tup [.int 0, .int 0, .int 0]) (.tup (ivs (List.replicate 16 0))) s = .ok (.tup (ivs (List.replicate 19 0))) s := fun s => rfl
    rw [mul, Wp_ok, add, Wp_ok]
    refine pk hs7 (by simp) (by simp) fun v s8 hv hs8 g8 => ?_
    obtain ⟨cs, rfl, hc, hcl⟩ : ∃ cs, v = .tup (ivs cs) ∧ Oct cs ∧ cs.length ≤ 1000 := by
      simp only [List.mem_cons, List.not_mem_nil, or_false] at hv
      rcases hv with rfl | rfl | rfl | rfl
      · exact ⟨bs, rfl, ho, by omega⟩
      · exact ⟨[1, 0, r2], rfl, fun x hx => by simp at hx; omega, by simp⟩
      · exact ⟨List.replicate 19 0, rfl, fun x hx => by have := List.eq_of_mem_replicate hx; omega, by simp⟩
      · exact ⟨[], rfl, fun x hx => (by cases hx), by simp⟩
    refine pk hs8 (by simp) (by simp) fun v2 s9 hv2 hs9 g9 => ?_
    obtain ⟨o, rfl, o1, o2⟩ : ∃ o : Int, v2 = .int o ∧ 0 ≤ o ∧ o < 100 := by
      simp only [List.mem_cons, List.not_mem_nil, or_false] at hv2
      rcases hv2 with rfl | rfl | rfl | rfl <;> exact ⟨_, rfl, by omega, by omega⟩
    refine k (.tuple [.str "forge", .int o, .int p, .tuple (cs.map PyData.int)]) _ s9 ⟨?_, ?_, ?_, _, rfl, by simp, by simp⟩ (.tup (.cons .str (.cons .int (.cons .int (.cons (.tup .ints) .nil))))) hs9 (((((G4.trans g5).trans g6).trans g7).trans ((Gr.app _).trans g8)).trans ((Gr.app _).trans g9))
    · show dForge [.int o, .int p, .tuple (cs.map PyData.int)] = true
      simp only [dForge, dNum, dOct, doct_ints hc]
      simp [o1, hp1]
    · exact (Sml.tup (Smls.cons' (sml_forge.mono (by omega) (Nat.le_refl _)) (Smls.cons' (smi o o1 (by omega)) (Smls.cons' (smi p hp1 (by omega)) (Smls.cons' ((sml_oct hc hcl).mono (by omega) (Nat.le_refl _)) nil4))))).mono (by omega) (by omega)
    · simp [nol, nols, nols_ints]
  · have a1 : ∀ s, oInT false (.str "again") (.tup [.str "bring", .str "drop"]) s = .ok (.bl false) s := fun s => by rw [in2 (by decide +kernel) lay3]; simp [ne_put_again, ne_bring_again, ne_bend_again, ne_forge_again, ne_drop_again, ne_move_again, ne_tick_again]
    wtm_at "wp"
    simp only [Wp_eqstr, a1, Wp_ok, oAdd_int, ne_again_put, ne_again_bring, ne_again_bend, ne_again_forge, ne_again_drop, ne_again_move, ne_again_tick, decide_true, Val.bl.injEq, exists_eq_left', if_true, Bool.false_eq_true, if_false, true_and, List.length_cons, List.length_nil, Nat.reduceAdd, Nat.reduceLeDiff, List.map_cons, List.map_nil, List.getD_cons_zero, List.getD_cons_succ]
    refine pk hs4 (by simp) (by simp) fun v2 s9 hv2 hs9 g9 => ?_
    obtain ⟨o, rfl, o1, o2⟩ : ∃ o : Int, v2 = .int o ∧ 0 ≤ o ∧ o < 100 := by
      simp only [List.mem_cons, List.not_mem_nil, or_false] at hv2
      rcases hv2 with rfl | rfl | rfl <;> exact ⟨_, rfl, by omega, by omega⟩
    refine k (.tuple [.str "again", .int nu, .int o, .int p]) _ s9 ⟨?_, ?_, ?_, _, rfl, by simp, by simp⟩ (.tup (.cons .str (.cons .int (.cons .int (.cons .int .nil))))) hs9 (G4.trans ((Gr.app _).trans g9))
    · show dAgain [.int nu, .int o, .int p] = true
      simp [dAgain, dNum, n1, o1, hp1]
    · exact (Sml.tup (Smls.cons' (sml_again.mono (by omega) (Nat.le_refl _)) (Smls.cons' (smi nu n1 (by omega)) (Smls.cons' (smi o o1 (by omega)) (Smls.cons' (smi p hp1 (by omega)) nil4))))).mono (by omega) (by omega)
    · simp [nol, nols]
  · have a1 : ∀ s, oInT false (.str "drop") (.tup [.str "bring", .str "drop"]) s = .ok (.bl true) s := fun s => by rw [in2 (by decide +kernel) lay3]; simp [ne_put_drop, ne_bring_drop, ne_bend_drop, ne_forge_drop, ne_again_drop, ne_move_drop, ne_tick_drop]
    wtm_at "wp"
    simp only [Wp_eqstr, a1, Wp_ok, oAdd_int, ne_drop_put, ne_drop_bring, ne_drop_bend, ne_drop_forge, ne_drop_again, ne_drop_move, ne_drop_tick, decide_true, Val.bl.injEq, exists_eq_left', if_true, Bool.false_eq_true, if_false, true_and, List.length_cons, List.length_nil, Nat.reduceAdd, Nat.reduceLeDiff, List.map_cons, List.map_nil, List.getD_cons_zero, List.getD_cons_succ]
    refine dr hs4 (by decide) (by decide) fun r s5 r1 r2 hs5 g5 => ?_
    have fin : ∀ z : Int, 0 ≤ z → z < 10 ^ 25 → Q (.tup [.str "drop", .int z]) s5 := fun z z1 z2 => by
      refine k (.tuple [.str "drop", .int z]) _ s5 ⟨?_, ?_, ?_, _, rfl, by simp, by simp⟩ (.tup (.cons .str (.cons .int .nil))) hs5 (G4.trans g5)
      · show dOne [.int z] = true
        simp [dOne, dNum, z1]
      · exact (Sml.tup (Smls.cons' (sml_drop.mono (by omega) (Nat.le_refl _)) (Smls.cons' (smi z z1 (by omega)) nil4))).mono (by omega) (by omega)
      · simp [nol, nols]
    by_cases hr : 0 < r
    · simp only [oGt, oInt_eq, oSub, if_true, Wp_ok, hr, decide_true, Val.bl.injEq, exists_eq_left', two', oMax2]
      refine fin _ ?_ ?_ <;> (split <;> omega)
    · simp only [oGt, oInt_eq, if_true, Wp_ok, hr, decide_false, Val.bl.injEq, exists_eq_left', Bool.false_eq_true, if_false]
      exact fin _ n1 (by omega)
  · have a1 : ∀ s, oInT false (.str "move") (.tup [.str "bring", .str "drop"]) s = .ok (.bl false) s := fun s => by rw [in2 (by decide +kernel) lay3]; simp [ne_put_move, ne_bring_move, ne_bend_move, ne_forge_move, ne_again_move, ne_drop_move, ne_tick_move]
    wtm_at "wp"
    simp only [Wp_eqstr, a1, Wp_ok, oAdd_int, ne_move_put, ne_move_bring, ne_move_bend, ne_move_forge, ne_move_again, ne_move_drop, ne_move_tick, decide_true, Val.bl.injEq, exists_eq_left', if_true, Bool.false_eq_true, if_false, true_and, List.length_cons, List.length_nil, Nat.reduceAdd, Nat.reduceLeDiff, List.map_cons, List.map_nil, List.getD_cons_zero, List.getD_cons_succ]
    refine k (.tuple [.str "move", .int e, .int p]) _ s4 ⟨?_, ?_, ?_, _, rfl, by simp, by simp⟩ (.tup (.cons .str (.cons .int (.cons .int .nil)))) hs4 G4
    · show dMove many [.int e, .int p] = true
      simp [dMove, dBel, dNum, e1, e2, hp1]
    · exact (Sml.tup (Smls.cons' (sml_move.mono (by omega) (Nat.le_refl _)) (Smls.cons' (smi e e1 (by omega)) (Smls.cons' (smi p hp1 (by omega)) nil4)))).mono (by omega) (by omega)
    · simp [nol, nols]
  · have a1 : ∀ s, oInT false (.str "tick") (.tup [.str "bring", .str "drop"]) s = .ok (.bl false) s := fun s => by rw [in2 (by decide +kernel) lay3]; simp [ne_put_tick, ne_bring_tick, ne_bend_tick, ne_forge_tick, ne_again_tick, ne_drop_tick, ne_move_tick]
    wtm_at "wp"
    simp only [Wp_eqstr, a1, Wp_ok, oAdd_int, ne_tick_put, ne_tick_bring, ne_tick_bend, ne_tick_forge, ne_tick_again, ne_tick_drop, ne_tick_move, decide_true, Val.bl.injEq, exists_eq_left', if_true, Bool.false_eq_true, if_false, true_and, List.length_cons, List.length_nil, Nat.reduceAdd, Nat.reduceLeDiff, List.map_cons, List.map_nil, List.getD_cons_zero, List.getD_cons_succ]
    refine dr hs4 (by decide) (by decide) fun r s5 r1 r2 hs5 g5 => ?_
    refine k (.tuple [.str "tick", .int r]) _ s5 ⟨?_, ?_, ?_, _, rfl, by simp, by simp⟩ (.tup (.cons .str (.cons .int .nil))) hs5 (G4.trans g5)
    · show dOne [.int r] = true
      simp [dOne, dNum, r1]
    · exact (Sml.tup (Smls.cons' (sml_tick.mono (by omega) (Nat.le_refl _)) (Smls.cons' (smi r r1 (by omega)) nil4))).mono (by omega) (by omega)
    · simp [nol, nols]
end
end Lw

/-! k73, the plain law: spoilt events. -/
local macro_rules | `(tactic| wtm_at "wp") => `(tactic| simp only [↓Sm.WpS_seqL, ↓Sm.W_nil, ↓Sm.W_brk, ↓Sm.W_cnt, ↓Sm.W_ret, ↓Sm.W_retN, ↓Sm.W_drop, ↓Sm.W_sif, ↓Sm.W_asg, ↓Sm.W_par, ↓Sm.W_par3, ↓Sm.W_C, ↓Sm.W_op, ↓Sm.W_un, ↓Sm.W_and, ↓Sm.W_or, ↓Sm.W_not, ↓Sm.W_chain, ↓Sm.W_tVal, ↓Sm.W_tAnd, ↓Sm.W_tOr, ↓Sm.W_tNot, ↓Sm.W_tYes, ↓Sm.W_if, ↓Sm.W_aNil, ↓Sm.W_aCons, ↓Sm.W_aApp, ↓Sm.W_tup, ↓Sm.W_lst, ↓Sm.W_call, ↓Sm.W_callF, ↓Sm.W_lm, ↓Sm.W_sl, ↓Sm.W_noP, ↓Sm.W_part, ↓Sm.W_rev, ↓Sm.Wp_ok, ↓Sm.W_ite_ex, ↓Sm.W_int_ex, ↓Sm.W_seqstr, ↓Sm.W_eqint, ↓Sm.W_neint, ↓Sm.W_addint, ↓Sm.W_oSub, ↓Sm.W_oLt, ↓Sm.W_oLe, ↓Sm.W_oGt, ↓Sm.W_oGe, ↓Sm.W_isnon, ↓Sm.Wg_non, ↓Sm.Wg_bl, ↓Sm.Wg_int, ↓Sm.Wg_str, ↓Sm.Wg_tup, ↓Sm.Wg_kt, ↓Sm.Wg_loc, ↓Sm.Wg_fn, ↓Sm.Wg_scr, ↓Sm.W_v0, ↓Sm.W_v1, ↓Sm.W_v2, ↓Sm.W_v3, ↓Sm.W_v4, ↓Sm.W_v5, ↓Sm.W_v6, ↓Sm.W_v7, ↓Sm.W_v8, ↓Sm.W_v9, ↓Sm.W_v10, ↓Sm.W_v11, ↓Sm.W_v12, ↓Sm.W_v13, ↓Sm.W_v14, ↓Sm.W_v15, ↓Sm.W_v16, ↓Sm.W_v17, ↓Sm.W_v18, ↓Sm.W_v19, ↓Sm.W_v20, ↓Sm.W_v21, ↓Sm.W_v22, ↓Sm.W_v23, ↓Sm.W_v24, ↓Sm.W_v25, ↓Sm.W_v26, ↓Sm.W_v27, ↓Sm.W_v28, ↓Sm.W_v29, ↓Sm.W_v30, Sm.arr, List.map_cons, List.map_nil, List.getD_cons_zero, List.getD_cons_succ, List.set_cons_zero, List.set_cons_succ, List.cons_append, List.nil_append, List.length_cons, List.length_nil, List.replicate, Nat.reduceSub, Nat.reduceAdd, Nat.reduceLeDiff, true_and, if_true, if_false, Bool.false_eq_true, Bool.not_true, Bool.not_false, decide_true, decide_false, Int.reduceSub, Int.reduceNeg])
namespace Lw
open PySem L2 Sm
theorem p12 : (10 : Int) ^ (12 : Int).toNat = 1000000000000 := by decide +kernel
theorem pow12 (s2 : Sto) : oPow (.int 10) (.int 12) s2 = .ok (.int 1000000000000) s2 := by
  simp only [oInt_eq, p12]
  rw [if_pos (by decide +kernel)]
/-- a value that may be looked at -/
def GdN (n m b : Nat) (s : Sto) (v : Val) : Prop := ∃ dv, RD b s dv v ∧ Sml n m dv
abbrev Gd := GdN 4 500
abbrev Gb := GdN 6 9000
section
variable {b d c : Nat} {st st' : Sto} {Q : Val → Sto → Prop} {E : Xn → Sto → Prop}
theorem GdN.gr {n m : Nat} {v : Val} (h : GdN n m b st v) (g : Gr b st st') : GdN n m b st' v := let ⟨dv, h1, h2⟩ := h; ⟨dv, RD.gr g dv h1, h2⟩
theorem GdN.tup {ds : List PyData} {x : Val} {n k m m' : Nat} (h : RD b st (.tuple ds) x) (s : Smls k m' ds) (hk : k + 1 ≤ n) (hm : m' ≤ m) : GdN n m b st x := ⟨_, h, (Sml.tup s).mono hk hm⟩
theorem RD.nols_tup {ds : List PyData} {x : Val} (h : RD b st (.tuple ds) x) : RD b st' (.tuple ds) x ∨ True := .inr trivial
theorem list_wp {ds : List PyData} {x : Val} {s : Sto} {Q : Val → Sto → Prop} {E : Xn → Sto → Prop} (hb : b ≤ s.length) (h : RD b s (.tuple ds) x) (k : ∀ y o, RD b (s ++ [o]) (.list ds) y → Q y (s ++ [o])) : Wp (one' oList [x] s) Q E := by
  obtain ⟨xs, rfl, hs⟩ := RD.tup_iff.mp h
  exact k (.loc s.length) (.lst xs) (.lst hb at_new (RDs.gr (.app _) _ hs))
theorem spoilt_ok {many : Int} {dv : PyData} {x : Val} (h : HS b d c st) (he : EvD many dv) (hx : RD b st dv x) (k : ∀ v s, Gb b s v → HS b d c s → Gr b st s → Q v s) : Wp (m__law_spoilt [.loc d, x] st) Q E := by
  obtain ⟨ds, rfl, hne, hl4⟩ := he.tp
  have sm := he.sm.parts
  have hb := h.hb
  have l1 := len_tup hx
  have hpos : 0 < (ds.length : Int) := by
    cases ds with
    | nil => exact absurd rfl hne
    | cons _ _ => simp
  have gx := Wg_ok hx.okV
  unfold m__law_spoilt b__law_spoilt
  rw [Wp_run]
  wtm_at "wp"
  simp only [↓gx, l1, ↓Wp_ok]
  refine dr h hpos (by omega) fun r s1 r1 r2 hs1 g1 => ?_
  rw [Later_eq]
  wtm_at "wp"
  generalize hp : s1 ++ [Ob.lst [Val.int 1]] = s2
  have hs2 : HS b d c s2 := by rw [← hp]; exact hs1.app _
  have g2 : Gr b s1 s2 := by rw [← hp]; exact .app _
  have L1 : Gd b s2 (.loc s1.length) := by
    rw [← hp]
    exact ⟨.list [.int 1], .lst hs1.hb at_new (.cons .int .nil), (Sml.lst (Smls.cons' (Sml.int (by omega) (by omega)) Smls.nil)).mono (by omega) (by omega)⟩
  have e10 := pow12 s2
  simp only [e10, Wp_ok]
  generalize hsl : [Val.non, .bl true, .int (-1), .int 0, .int 1, .int 3, .int 256, .str "put", .str "bring", .str "move", .str "tick", .str "", .tup [], .tup [.int 1, .int 2], .tup [.int 256], .loc s1.length, .tup [.int 1, .int 2, .tup [.int 3]], .int 1000000000000] = SL
  have sl_ne : SL ≠ [] := by rw [← hsl]; simp
  have sl_len : SL.length < 16777216 := by rw [← hsl]; simp
  have sl_gd : ∀ v ∈ SL, Gd b s2 v := by
    intro v hv
    rw [← hsl] at hv
    have I : ∀ z : Int, 0 ≤ z → z < 10 ^ 40 → Gd b s2 (.int z) := fun z a1 a2 => ⟨.int z, .int, (Sml.int a1 (by omega)).mono (by omega) (by omega)⟩
    have S : ∀ z : Str, Sml 1 100 (.str z) → Gd b s2 (.str z) := fun z q => ⟨.str z, .str, q.mono (by omega) (by omega)⟩
    have n1 : Smls 1 0 ([] : List PyData) := Smls.nil
    have i1 : ∀ z : Int, 0 ≤ z → z < 10 ^ 40 → Sml 1 0 (.int z) := fun z a1 a2 => Sml.int a1 (by omega)
    simp only [List.mem_cons, List.not_mem_nil, or_false] at hv
    rcases hv with rfl | rfl | rfl | rfl | rfl | rfl | rfl | rfl | rfl | rfl | rfl | rfl | rfl | rfl | rfl | rfl | rfl | rfl
    · exact ⟨.none, .non, Sml.non.mono (by omega) (by omega)⟩
    · exact ⟨.bool true, .bl, (Sml.bl true).mono (by omega) (by omega)⟩
    · exact ⟨.int (-1), .int, Sml.neg1.mono (by omega) (by omega)⟩
    · exact I 0 (by omega) (by omega)
    · exact I 1 (by omega) (by omega)
    · exact I 3 (by omega) (by omega)
    · exact I 256 (by omega) (by omega)
    · exact S _ sml_put
    · exact S _ sml_bring
    · exact S _ sml_move
    · exact S _ sml_tick
    · exact S _ sml_e
    · exact .tup (ds := []) (.tup .nil) n1 (by omega) (by omega)
    · exact .tup (ds := [.int 1, .int 2]) (.tup (.cons .int (.cons .int .nil))) (Smls.cons' (i1 1 (by omega) (by omega)) (Smls.cons' (i1 2 (by omega) (by omega)) n1)) (by omega) (by omega)
    · exact .tup (ds := [.int 256]) (.tup (.cons .int .nil)) (Smls.cons' (i1 256 (by omega) (by omega)) n1) (by omega) (by omega)
    · exact L1
    · refine .tup (ds := [.int 1, .int 2, .tuple [.int 3]]) (.tup (.cons .int (.cons .int (.cons (.tup (.cons .int .nil)) .nil)))) (k := 2) (m' := 10) ?_ (by omega) (by omega)
      exact (Smls.cons' (n := 2) ((i1 1 (by omega) (by omega)).mono (by omega) (Nat.le_refl _)) (Smls.cons' ((i1 2 (by omega) (by omega)).mono (by omega) (Nat.le_refl _)) (Smls.cons' (Sml.tup (Smls.cons' (i1 3 (by omega) (by omega)) n1)) (n1.mono (by omega) (Nat.le_refl _))))).mono (by omega) (by omega)
    · exact I 1000000000000 (by omega) (by omega)
  generalize hp3 : s2 ++ [Ob.lst SL] = s3
  have hs3 : HS b d c s3 := by rw [← hp3]; exact hs2.app _
  have g3 : Gr b s2 s3 := by rw [← hp3]; exact .app _
  have a3 : s3[s2.length]? = some (.lst SL) := by rw [← hp3]; exact at_new
  have sl3 : ∀ v ∈ SL, Gd b s3 v := fun v hv => (sl_gd v hv).gr g3
  have hb2 : b ≤ s2.length := hs2.hb
  clear sl_gd hsl hp hp3 L1 e10
  have x3 : RD b s3 (.tuple ds) x := RD.gr ((g1.trans g2).trans g3) _ hx
  obtain ⟨rn, rfl⟩ : ∃ rn : Nat, r = (rn : Int) := ⟨r.toNat, by omega⟩
  /- the parts of the event, in any store -/
  have part : ∀ s (lo hi : Option Int) (Q : Val → Sto → Prop) (E : Xn → Sto → Prop), Gr b s3 s → (∀ y, RD b s (.tuple (cutL ds lo hi)) y → Q y s) → Wp (slO x lo hi s) Q E := fun s lo hi Q E g kk => sl_wp (RD.gr g _ x3) kk
  have scut : ∀ lo hi, Smls 4 2000 (cutL ds lo hi) := fun lo hi => Smls.sub sm (cutL_sub ds lo hi) (by omega)
  have lcut : ∀ lo hi, (cutL ds lo hi).length ≤ 4 := fun lo hi => Nat.le_trans (cutL_sub ds lo hi).length_le hl4
  have nil5 : Smls 5 0 ([] : List PyData) := Smls.nil.mono (by omega) (Nat.le_refl _)
  have catG : ∀ {s : Sto} {es fs : List PyData} {y z : Val} {m m' : Nat} (Q : Val → Sto → Prop) (E : Xn → Sto → Prop), RD b s (.tuple es) y → RD b s (.tuple fs) z → Smls 5 m es → Smls 5 m' fs → m + m' ≤ 9000 → (∀ u, RD b s (.tuple (es ++ fs)) u → Q u s) → Wp (oAdd y z s) Q E := fun Q E h1 h2 s1 s2 hm kk => by
    refine add_wp h1 h2 ?_ kk
    have q1 := (bulk_len s1.sb.b).1
    have q2 := (bulk_len s2.sb.b).1
    omega
  have S5 : ∀ lo hi, Smls 5 2000 (cutL ds lo hi) := fun lo hi => (scut lo hi).mono (by omega) (Nat.le_refl _)
  have lenB : ∀ {s : Sto} {es : List PyData} {y : Val}, RD b s (.tuple es) y → Smls 5 9000 es → Gb b s y := fun h1 h2 => .tup h1 h2 (by omega) (by omega)
  rw [Later_eq]
  wtm_at "wp"
  simp only [↓gx, ↓Wp_ok]
  refine part _ _ _ _ _ .refl fun y1 hy1 => ?_
  refine pick_wp draw_ok hs3 a3 hb2 sl_ne sl_len fun v4 s4 hv4 hs4 g4 => ?_
  obtain ⟨w4, rw4, sw4⟩ := (sl3 v4 hv4).gr g4
  have hw4 : Smls 5 501 [w4] := (Smls.cons' (sw4.mono (by omega) (Nat.le_refl _)) nil5).mono (Nat.le_refl _) (by omega)
  refine catG _ _ (RD.gr g4 _ hy1) (.tup (.cons rw4 .nil)) (S5 _ _) hw4 (by omega) fun u1 hu1 => ?_
  refine part _ _ _ _ _ g4 fun y2 hy2 => ?_
  refine catG _ _ hu1 hy2 ((S5 _ _).append hw4) (S5 _ _) (by omega) fun m1 hm1 => ?_
  have sm1 := ((S5 none (some (rn : Int))).append hw4).append (S5 (some ((rn : Int) + 1)) none)
  refine part _ _ _ _ _ g4 fun y3 hy3 => ?_
  refine part _ _ _ _ _ g4 fun y4 hy4 => ?_
  refine catG _ _ hy3 hy4 (S5 _ _) (S5 _ _) (by omega) fun m2 hm2 => ?_
  have i1 : Smls 5 1 [PyData.int 1] := (Smls.cons' ((Sml.int (by omega) (by omega)).mono (by omega) (Nat.le_refl _)) nil5).mono (Nat.le_refl _) (by omega)
  have x4 : RD b s4 (.tuple ds) x := RD.gr g4 _ x3
  have sm5 : Smls 5 2000 ds := sm.mono (by omega) (Nat.le_refl _)
  refine catG _ _ x4 (.tup (.cons .int .nil)) sm5 i1 (by omega) fun m3 hm3 => ?_
  refine list_wp hs4.hb x4 fun m4 o hm4 => ?_
  have g5 : Gr b s4 (s4 ++ [o]) := .app _
  have hs5 : HS b d c (s4 ++ [o]) := hs4.app _
  have GM : ∀ v ∈ [m1, m2, m3, m4], Gb b (s4 ++ [o]) v := by
    intro v hv
    simp only [List.mem_cons, List.not_mem_nil, or_false] at hv
    rcases hv with rfl | rfl | rfl | rfl
    · exact (lenB hm1 (sm1.mono (Nat.le_refl _) (by omega))).gr g5
    · exact (lenB hm2 (((S5 _ _).append (S5 _ _)).mono (Nat.le_refl _) (by omega))).gr g5
    · exact (lenB hm3 ((sm5.append i1).mono (Nat.le_refl _) (by omega))).gr g5
    · exact ⟨_, hm4, (Sml.lst sm5).mono (by omega) (by omega)⟩
  generalize hp6 : s4 ++ [o] = s5 at *
  generalize hL : s5.length = L5 at *
  generalize hp7 : s5 ++ [Ob.lst [m1, m2, m3, m4]] = s6 at *
  have g6 : Gr b s5 s6 := by rw [← hp7]; exact .app _
  have hs6 : HS b d c s6 := by rw [← hp7]; exact hs5.app _
  have a6 : s6[L5]? = some (.lst [m1, m2, m3, m4]) := by rw [← hp7, ← hL]; exact at_new
  have hb5 : b ≤ L5 := by rw [← hL]; exact hs5.hb
  have g36 : Gr b s3 s6 := (g4.trans g5).trans g6
  rw [Later_eq]
  wtm_at "wp"
  simp only [↓gx, ↓Wp_ok]
  refine part _ _ _ _ _ g36 fun z1 hz1 => ?_
  refine part _ _ _ _ _ g36 fun z2 hz2 => ?_
  refine catG _ _ hz1 hz2 (S5 _ _) (S5 _ _) (by omega) fun z3 hz3 => ?_
  refine part _ _ _ _ _ g36 fun z4 hz4 => ?_
  refine catG _ _ hz3 hz4 ((S5 _ _).append (S5 _ _)) (S5 _ _) (by omega) fun q1 hq1 => ?_
  have sq1 := ((S5 none (some (rn : Int))).append (S5 (some (rn : Int)) (some ((rn : Int) + 1)))).append (S5 (some (rn : Int)) none)
  refine part _ _ _ _ _ g36 fun z5 hz5 => ?_
  have iP : Smls 5 101 [PyData.str "Put"] := (Smls.cons' (sml_Put.mono (by omega) (Nat.le_refl _)) nil5).mono (Nat.le_refl _) (by omega)
  refine catG _ _ (.tup (.cons .str .nil)) hz5 iP (S5 _ _) (by omega) fun q2 hq2 => ?_
  have a36 : s6[s2.length]? = some (.lst SL) := g36.at hb2 a3
  refine pick_wp draw_ok hs6 a36 hb2 sl_ne sl_len fun v7 s7 hv7 hs7 g7 => ?_
  have GV : Gd b s7 v7 := (sl3 v7 hv7).gr (g36.trans g7)
  have GL : ∀ v ∈ [m1, m2, m3, m4, q1, q2, v7], Gb b s7 v := by
    intro v hv
    simp only [List.mem_cons, List.not_mem_nil, or_false] at hv
    have g67 := g6.trans g7
    rcases hv with rfl | rfl | rfl | rfl | rfl | rfl | rfl
    · exact (GM _ (by simp)).gr g67
    · exact (GM _ (by simp)).gr g67
    · exact (GM _ (by simp)).gr g67
    · exact (GM _ (by simp)).gr g67
    · exact (lenB hq1 (sq1.mono (Nat.le_refl _) (by omega))).gr g7
    · exact (lenB hq2 ((iP.append (S5 _ _)).mono (Nat.le_refl _) (by omega))).gr g7
    · obtain ⟨dv, p1, p2⟩ := GV
      exact ⟨dv, p1, p2.mono (by omega) (by omega)⟩
  generalize hp8 : s7 ++ [Ob.lst [q1, q2, v7]] = s8
  have g8 : Gr b s7 s8 := by rw [← hp8]; exact .app _
  have hs8 : HS b d c s8 := by rw [← hp8]; exact hs7.app _
  have e4 : s8[L5]? = some (.lst [m1, m2, m3, m4]) := (g7.trans g8).at hb5 a6
  have e5 : s8[s7.length]? = some (.lst [q1, q2, v7]) := by rw [← hp8]; exact at_new
  have ad : oAdd (.loc L5) (.loc s7.length) s8 = .ok (.loc s8.length) (s8 ++ [.lst [m1, m2, m3, m4, q1, q2, v7]]) := by
    simp [oAdd, e4, e5]
  simp only [ad, ↓Wp_ok]
  refine pk hs8 (by simp) (by simp) fun v s9 hv hs9 g9 => ?_
  refine k v s9 ((GL v hv).gr ((g8.trans (.app _)).trans g9)) hs9 ?_
  exact (((((g1.trans g2).trans g3).trans g36).trans g7).trans ((g8.trans (.app _)).trans g9))
end
end Lw

/-! k73, the plain law: its turns. -/
local macro_rules | `(tactic| wtm_at "wp") => `(tactic| simp only [↓Sm.WpS_seqL, ↓Sm.W_nil, ↓Sm.W_brk, ↓Sm.W_cnt, ↓Sm.W_ret, ↓Sm.W_retN, ↓Sm.W_drop, ↓Sm.W_sif, ↓Sm.W_asg, ↓Sm.W_par, ↓Sm.W_par3, ↓Sm.W_C, ↓Sm.W_op, ↓Sm.W_un, ↓Sm.W_and, ↓Sm.W_or, ↓Sm.W_not, ↓Sm.W_chain, ↓Sm.W_tVal, ↓Sm.W_tAnd, ↓Sm.W_tOr, ↓Sm.W_tNot, ↓Sm.W_tYes, ↓Sm.W_if, ↓Sm.W_aNil, ↓Sm.W_aCons, ↓Sm.W_aApp, ↓Sm.W_tup, ↓Sm.W_lst, ↓Sm.W_call, ↓Sm.W_callF, ↓Sm.W_lm, ↓Sm.W_sl, ↓Sm.W_noP, ↓Sm.W_part, ↓Sm.W_rev, ↓Sm.Wp_ok, ↓Sm.W_ite_ex, ↓Sm.W_int_ex, ↓Sm.W_seqstr, ↓Sm.W_eqint, ↓Sm.W_neint, ↓Sm.W_addint, ↓Sm.W_oSub, ↓Sm.W_oLt, ↓Sm.W_oLe, ↓Sm.W_oGt, ↓Sm.W_oGe, ↓Sm.W_isnon, ↓Sm.Wg_non, ↓Sm.Wg_bl, ↓Sm.Wg_int, ↓Sm.Wg_str, ↓Sm.Wg_tup, ↓Sm.Wg_kt, ↓Sm.Wg_loc, ↓Sm.Wg_fn, ↓Sm.Wg_scr, ↓Sm.W_v0, ↓Sm.W_v1, ↓Sm.W_v2, ↓Sm.W_v3, ↓Sm.W_v4, ↓Sm.W_v5, ↓Sm.W_v6, ↓Sm.W_v7, ↓Sm.W_v8, ↓Sm.W_v9, ↓Sm.W_v10, ↓Sm.W_v11, ↓Sm.W_v12, ↓Sm.W_v13, ↓Sm.W_v14, ↓Sm.W_v15, ↓Sm.W_v16, ↓Sm.W_v17, ↓Sm.W_v18, ↓Sm.W_v19, ↓Sm.W_v20, ↓Sm.W_v21, ↓Sm.W_v22, ↓Sm.W_v23, ↓Sm.W_v24, ↓Sm.W_v25, ↓Sm.W_v26, ↓Sm.W_v27, ↓Sm.W_v28, ↓Sm.W_v29, ↓Sm.W_v30, Sm.arr, List.map_cons, List.map_nil, List.getD_cons_zero, List.getD_cons_succ, List.set_cons_zero, List.set_cons_succ, List.cons_append, List.nil_append, List.length_cons, List.length_nil, List.replicate, Nat.reduceSub, Nat.reduceAdd, Nat.reduceLeDiff, true_and, if_true, if_false, Bool.false_eq_true, Bool.not_true, Bool.not_false, decide_true, decide_false, Int.reduceSub, Int.reduceNeg])
namespace Lw
open PySem L2 Sm
theorem shaped_heard (o : Option Int) : SeqAt.shaped (dHeard o) = true ∧ (dHeard o).depth ≤ 40 ∧ (dHeard o).hasDict = false := by
  cases o <;> simp [dHeard, SeqAt.shaped, PyData.canLay0, PyData.canLayAll0, PyData.depth, PyData.depthAll, PyData.hasDict, PyData.hasDictAll]
theorem Smls.of_all {n m : Nat} : ∀ {ds : List PyData}, 1 ≤ n → (∀ d ∈ ds, Sml n m d) → Smls n (ds.length * (m + 1)) ds
  | [], h, _ => Smls.nil.mono h (Nat.zero_le _)
  | d :: ds, h, k => by
    have q := Smls.cons' (k d List.mem_cons_self) (Smls.of_all h fun x hx => k x (List.mem_cons_of_mem _ hx))
    refine q.mono (Nat.le_refl _) ?_
    simp only [List.length_cons, Nat.add_mul]
    omega
theorem lc_mapG {α : Type} {mi : Ix} {g : Gx} {M : Ex} {vs : List Nat} {env : Sm.Env} {st st1 : Sto} {as : List α} {gd : List (Nat × Ob)} (A F : α → Val) (hmi : mi env st = .ok (as.map A, gd) st1) (hgd : ∀ p ∈ gd, st1[p.1]? = some p.2) (hl : as.length < 16777216)
    (hM : ∀ a s, ∃ env1, g (A a) (wipeE env vs) = some env1 ∧ M env1 s = .ok (F a) s) : eLc mi g tYes' M vs env st = .ok (.loc st1.length) (st1 ++ [Ob.lst (as.map F)]) := by
  have key : ∀ (bs : List α) (acc : List Val), acc.length + bs.length < 16777216 → lcL gd g tYes' M (wipeE env vs) st1.length (bs.map A) (st1 ++ [Ob.lst acc]) = .ok () (st1 ++ [Ob.lst (acc ++ bs.map F)]) := by
    have hg : ∀ (o : Ob), ∀ p ∈ gd, (st1 ++ [o])[p.1]? = some p.2 := fun o p hp => pre_at (pre_app _) (hgd p hp)
    intro bs
    induction bs with
    | nil =>
      intro acc _
      simp only [List.map_nil, List.append_nil]
      unfold lcL
      rw [if_pos (hg _)]
    | cons a r ih =>
      intro acc hz
      simp only [List.length_cons] at hz
      obtain ⟨env1, g1, m1⟩ := hM a (st1 ++ [Ob.lst acc])
      rw [List.map_cons]
      unfold lcL
      rw [if_pos (hg _), g1]
      have e1 : (st1 ++ [Ob.lst acc])[st1.length]? = some (.lst acc) := at_new
      have e2 : (st1 ++ [Ob.lst acc]).set st1.length (.lst (acc ++ [F a])) = st1 ++ [Ob.lst (acc ++ [F a])] := by rw [List.set_append_right _ _ (Nat.le_refl _)]; simp
      simp only [tYes', noErR, R.bind_ok, if_true, m1, e1]
      rw [if_pos (by omega), e2, ih (acc ++ [F a]) (by simp; omega)]
      simp
  rw [eLc_eq, hmi, R.bind_ok, key as [] (by simpa using hl)]
  simp
section
variable {b d c : Nat} {st : Sto} {Q : Val → Sto → Prop} {E : Xn → Sto → Prop}
/-- both say the same -/
theorem same_ok {x : Val} {dv : PyData} {many : Int} {n m : Nat} (h : HS b d c st) (hx : RD b st dv x) (hs : Sml n m dv) (hn : n ≤ 38) (hm : m < 16777216) (k : ∀ s, HS b d c s → Gr b st s → Q (.bl false) s) :
    Wp (m__law_heard [x, .int many] st) (fun v s1 => Wp (m__law_due [x, .int many] s1) (fun w s2 => Wp (oEq true v w s2) Q E) E) E := by
  obtain ⟨v, t, e1, r1⟩ := heard_ok (many := many) hx h.hb
  rw [e1, Wp_ok]
  have g1 : Gr b st (st ++ t) := .app t
  have hs1 : HS b d c (st ++ t) := h.app t
  refine (due_ok (n := n) (many := many) hn ⟨hs.lay, hs.sb.dp⟩ (fun ds e => ?_) hs1.hb (RD.gr g1 _ hx)).mono fun w s ⟨p, r2⟩ => ?_
  · subst e
    have h1 := hs.sb.b
    simp only [PyData.bulk] at h1
    refine ⟨fun d hd => ?_, by have := (bulk_len h1).1; omega⟩
    have h2 := (bulk_len h1).2 d hd
    intro es e
    subst e
    simp only [PyData.bulk] at h2
    obtain ⟨h3, h4⟩ := bulk_len h2
    refine ⟨by omega, fun fs hf => ?_⟩
    have h5 := h4 _ hf
    simp only [PyData.bulk] at h5
    obtain ⟨h6, h7⟩ := bulk_len h5
    refine ⟨by omega, fun gs hg => ?_⟩
    have h8 := h7 _ hg
    simp only [PyData.bulk] at h8
    have := (bulk_len h8).1
    omega
  · obtain ⟨s1, s2, s3⟩ := shaped_heard (dSc many dv)
    have g2 : Gr b (st ++ t) s := .pre p
    have e := eq_rd (neg := true) (RD.gr g2 _ r1) r2 s1 s1 s2 s2
    rw [eqv_self _ s3] at e
    exact Wp_of e (k s (hs1.pre p) (g1.trans g2))
theorem valid_none {many : Int} {ds : List PyData} (h : ∀ e ∈ ds, EvD many e) : dSc many (.tuple ds) = none := by
  have : ds.all (dEv many) = true := List.all_eq_true.mpr fun x hx => (h x hx).ev
  simp [dSc, (firstF_none _ _ 0).mpr this]
end
/-! ### arrivals -/
abbrev Arr := Int × Int × List Int
def aV (a : Arr) : Val := .tup [.int a.1, .int a.2.1, .tup (ivs a.2.2)]
def fV (a : Arr) : Val := .tup [.str "forge", .int a.1, .int a.2.1, .tup (ivs a.2.2)]
def bV' (made : Int) (i : Nat) : Val := .tup [.str "bring", .int (made + (i : Int))]
def aD (a : Arr) : PyData := .tuple [.int a.1, .int a.2.1, .tuple (a.2.2.map PyData.int)]
def fD (a : Arr) : PyData := .tuple [.str "forge", .int a.1, .int a.2.1, .tuple (a.2.2.map PyData.int)]
def bD (made : Int) (i : Nat) : PyData := .tuple [.str "bring", .int (made + (i : Int))]
def scD (as : List Arr) (made : Int) : PyData := .tuple (as.map fD ++ (List.range as.length).map (bD made))
def scV (as : List Arr) (made : Int) : Val := .tup (as.map fV ++ (List.range as.length).map (bV' made))
theorem rd_map {α : Type} {b : Nat} {st : Sto} {f : α → PyData} {g : α → Val} (h : ∀ a, RD b st (f a) (g a)) : ∀ (as : List α), RDs b st (as.map f) (as.map g)
  | [] => .nil
  | a :: r => .cons (h a) (rd_map h r)
theorem rd_aD {b : Nat} {st : Sto} (a : Arr) : RD b st (aD a) (aV a) := .tup (.cons .int (.cons .int (.cons (.tup .ints) .nil)))
theorem rd_scD {b : Nat} {st : Sto} (as : List Arr) (made : Int) : RD b st (scD as made) (scV as made) := .tup ((rd_map (fun a => .tup (.cons .str (.cons .int (.cons .int (.cons (.tup .ints) .nil))))) as).append (rd_map (fun i => .tup (.cons .str (.cons .int .nil))) _))
structure ArrOk (a : Arr) : Prop where
  p1 : 0 ≤ a.1 ∧ a.1 < 9
  p2 : 0 ≤ a.2.1 ∧ a.2.1 < 9
  p3 : Oct a.2.2 ∧ a.2.2.length = 2
theorem sml_scD {as : List Arr} {made : Int} (h : ∀ a ∈ as, ArrOk a) (hl : as.length ≤ 4) (hm : 0 ≤ made ∧ made < 9) : Sml 6 20000 (scD as made) := by
  have nil4 : Smls 4 0 ([] : List PyData) := Smls.nil.mono (by omega) (Nat.le_refl _)
  have smi : ∀ z : Int, 0 ≤ z → z < 10 ^ 30 → Sml 4 0 (.int z) := fun z a1 a2 => (Sml.int a1 (by omega)).mono (by omega) (Nat.le_refl _)
  have q1 : Smls 5 ((as.map fD).length * (1500 + 1)) (as.map fD) := Smls.of_all (by omega) fun d hd => by
    obtain ⟨a, ha, rfl⟩ := List.mem_map.mp hd
    have q := h a ha
    exact (Sml.tup (Smls.cons' (sml_forge.mono (by omega) (Nat.le_refl _)) (Smls.cons' (smi a.1 q.p1.1 (by have := q.p1; omega)) (Smls.cons' (smi a.2.1 q.p2.1 (by have := q.p2; omega)) (Smls.cons' ((sml_oct q.p3.1 (by have := q.p3.2; omega)).mono (by omega) (Nat.le_refl _)) nil4))))).mono (by omega) (by omega)
  have q2 : Smls 5 (((List.range as.length).map (bD made)).length * (200 + 1)) ((List.range as.length).map (bD made)) := Smls.of_all (by omega) fun d hd => by
    obtain ⟨i, hi, rfl⟩ := List.mem_map.mp hd
    have hi' := List.mem_range.mp hi
    exact (Sml.tup (Smls.cons' (sml_bring.mono (by omega) (Nat.le_refl _)) (Smls.cons' (smi (made + (i : Int)) (by omega) (by omega)) nil4))).mono (by omega) (by omega)
  refine (Sml.tup (q1.append q2)).mono (by omega) ?_
  simp only [List.length_map, List.length_range]
  omega
section
variable {b d c : Nat} {st : Sto} {Q : Val → Sto → Prop} {E : Xn → Sto → Prop}
/-- walked: a list or a tuple of arrivals -/
theorem script_of_ok {x : Val} {as : List Arr} {made : Int} (hx : (∃ l, x = .loc l ∧ st[l]? = some (.lst (as.map aV))) ∨ x = .tup (as.map aV)) (hl : as.length ≤ 4) : ∃ t, m_script_of [x, .int made] st = .ok (scV as made) (st ++ t) := by
  have gx : ∀ s, getV (some (some x)) s = .ok x s := fun s => by rcases hx with ⟨l, rfl, _⟩ | rfl <;> rfl
  obtain ⟨gd, hi, hg⟩ : ∃ gd, iSeq (eVar 0) [some x, some (.int made), none, none, none, none, none] st = .ok (as.map aV, gd) st ∧ ∀ p ∈ gd, st[p.1]? = some p.2 := by
    rcases hx with ⟨l, rfl, hl⟩ | rfl
    · exact ⟨_, iSeq_at (xs := as.map aV) rfl hl, fun p hp => by rw [List.mem_singleton.mp hp]; exact hl⟩
    · exact ⟨[], rfl, fun p hp => by cases hp⟩
  have l1 : eLc (iSeq (eVar 0)) (gTup' 3 (gCons' (gNm 3) (gCons' (gNm 4) (gCons' (gNm 5) gNil')))) tYes' (eTup (aCons (eC (.str ("forge" : Str))) (aCons (eVar 3) (aCons (eVar 4) (aCons (eVar 5) aNil))))) [3, 4, 5] [some x, some (.int made), none, none, none, none, none] st = .ok (.loc st.length) (st ++ [Ob.lst (as.map fV)]) :=
    lc_mapG aV fV hi hg (by omega) fun a s => ⟨[some x, some (.int made), none, some (.int a.1), some (.int a.2.1), some (.tup (ivs a.2.2)), none], by simp [aV, gTup', gCons', gNm, gNil', wipeE], by simp [fV]⟩
  generalize hs1 : st ++ [Ob.lst (as.map fV)] = s1 at *
  have a1 : s1[st.length]? = some (.lst (as.map fV)) := by rw [← hs1]; exact at_new
  have ln : one' oLen [.loc st.length] s1 = .ok (.int as.length) s1 := by simp [one', oLen, seqOf, a1]
  have r1 : iRange1 (eCall (one' oLen) (aCons (eVar 2) aNil)) [some x, some (.int made), some (.loc st.length), none, none, none, none] s1 = .ok ((List.range as.length).map fun (i : Nat) => Val.int (i : Int), []) s1 := iRange1_ok (z := as.length) (k := as.length) (by simp [ln]) rfl (by omega)
  have l2 : eLc (iRange1 (eCall (one' oLen) (aCons (eVar 2) aNil))) (gNm 6) tYes' (eTup (aCons (eC (.str ("bring" : Str))) (aCons (eOp oAdd (eVar 1) (eVar 6)) aNil))) [6] [some x, some (.int made), some (.loc st.length), none, none, none, none] s1 = .ok (.loc s1.length) (s1 ++ [Ob.lst ((List.range as.length).map (bV' made))]) :=
    lc_mapG (fun (i : Nat) => Val.int (i : Int)) (bV' made) r1 (fun p hp => by cases hp) (by simp; omega) fun a s => ⟨[some x, some (.int made), some (.loc st.length), none, none, none, some (.int (a : Int))], by simp [gNm, wipeE], by simp [bV', oAdd_int]⟩
  generalize hs2 : s1 ++ [Ob.lst ((List.range as.length).map (bV' made))] = s2 at *
  have a2 : s2[st.length]? = some (.lst (as.map fV)) := by rw [← hs2]; exact pre_at (pre_app _) a1
  have a3 : s2[s1.length]? = some (.lst ((List.range as.length).map (bV' made))) := by rw [← hs2]; exact at_new
  have ad : oAdd (.loc st.length) (.loc s1.length) s2 = .ok (.loc s2.length) (s2 ++ [.lst (as.map fV ++ (List.range as.length).map (bV' made))]) := by
    have : as.length + as.length ≤ 16777216 := by omega
    simp [oAdd, a2, a3, this]
  have tu := oTuple_at (st := s2) (xs := as.map fV ++ (List.range as.length).map (bV' made))
  refine ⟨[Ob.lst (as.map fV)] ++ ([Ob.lst ((List.range as.length).map (bV' made))] ++ [.lst (as.map fV ++ (List.range as.length).map (bV' made))]), ?_⟩
  rw [← List.append_assoc, hs1, ← List.append_assoc, hs2]
  simp only [m_script_of, runB, b_script_of, List.map_cons, List.map_nil, List.length_cons, List.length_nil, List.cons_append, List.nil_append, List.replicate, sSeq, sAsg_eq, l1, R.to_ok, Nat.reduceSub, Nat.reduceAdd, List.set_cons_zero, List.set_cons_succ]
  simp [-eLc_eq, l2, ad, one', tu, scV]
end
end Lw

/-! k73, the plain law: the whole. -/
local macro_rules | `(tactic| wtm_at "wp") => `(tactic| simp only [↓Sm.WpS_seqL, ↓Sm.W_nil, ↓Sm.W_brk, ↓Sm.W_cnt, ↓Sm.W_ret, ↓Sm.W_retN, ↓Sm.W_drop, ↓Sm.W_sif, ↓Sm.W_asg, ↓Sm.W_par, ↓Sm.W_par3, ↓Sm.W_C, ↓Sm.W_op, ↓Sm.W_un, ↓Sm.W_and, ↓Sm.W_or, ↓Sm.W_not, ↓Sm.W_chain, ↓Sm.W_tVal, ↓Sm.W_tAnd, ↓Sm.W_tOr, ↓Sm.W_tNot, ↓Sm.W_tYes, ↓Sm.W_if, ↓Sm.W_aNil, ↓Sm.W_aCons, ↓Sm.W_aApp, ↓Sm.W_tup, ↓Sm.W_lst, ↓Sm.W_call, ↓Sm.W_callF, ↓Sm.W_lm, ↓Sm.W_sl, ↓Sm.W_noP, ↓Sm.W_part, ↓Sm.W_rev, ↓Sm.Wp_ok, ↓Sm.W_ite_ex, ↓Sm.W_int_ex, ↓Sm.W_seqstr, ↓Sm.W_eqint, ↓Sm.W_neint, ↓Sm.W_addint, ↓Sm.W_oSub, ↓Sm.W_oLt, ↓Sm.W_oLe, ↓Sm.W_oGt, ↓Sm.W_oGe, ↓Sm.W_isnon, ↓Sm.Wg_non, ↓Sm.Wg_bl, ↓Sm.Wg_int, ↓Sm.Wg_str, ↓Sm.Wg_tup, ↓Sm.Wg_kt, ↓Sm.Wg_loc, ↓Sm.Wg_fn, ↓Sm.Wg_scr, ↓Sm.W_v0, ↓Sm.W_v1, ↓Sm.W_v2, ↓Sm.W_v3, ↓Sm.W_v4, ↓Sm.W_v5, ↓Sm.W_v6, ↓Sm.W_v7, ↓Sm.W_v8, ↓Sm.W_v9, ↓Sm.W_v10, ↓Sm.W_v11, ↓Sm.W_v12, ↓Sm.W_v13, ↓Sm.W_v14, ↓Sm.W_v15, ↓Sm.W_v16, ↓Sm.W_v17, ↓Sm.W_v18, ↓Sm.W_v19, ↓Sm.W_v20, ↓Sm.W_v21, ↓Sm.W_v22, ↓Sm.W_v23, ↓Sm.W_v24, ↓Sm.W_v25, ↓Sm.W_v26, ↓Sm.W_v27, ↓Sm.W_v28, ↓Sm.W_v29, ↓Sm.W_v30, Sm.arr, List.map_cons, List.map_nil, List.getD_cons_zero, List.getD_cons_succ, List.set_cons_zero, List.set_cons_succ, List.cons_append, List.nil_append, List.length_cons, List.length_nil, List.replicate, Nat.reduceSub, Nat.reduceAdd, Nat.reduceLeDiff, true_and, if_true, if_false, Bool.false_eq_true, Bool.not_true, Bool.not_false, decide_true, decide_false, Int.reduceSub, Int.reduceNeg])
namespace Lw
open PySem L2 Sm
theorem heap_ok {ns : List Int} : Ok (m__law_heap [.scr ns, .int 73] []) fun v s => ∃ d c, v = .loc d ∧ Deal s d c :=
  deal_ok (ini := eOp oAdd (eC (.int 52387)) (eOp oMul (eC (.int 811)) (eVar 1))) (A := 48271) (M := 2147483549) (C := 29) (base := 73) (by decide) (by decide) (by decide) (by decide) fun e2 e3 st => ⟨52387 + 811 * 73, rfl, by decide, by decide⟩
section
variable {b d c : Nat} {st : Sto} {Q : Val → Sto → Prop} {E : Xn → Sto → Prop}
/-- events in a list -/
theorem events_ok {env : Sm.Env} {many : Int} (h0 : env[1]? = some (some (.loc d))) (h3 : env[3]? = some (some (.int many))) (h : HS b d c st) (h1 : 0 < many) (h2 : many ≤ 3)
    (k : ∀ ds xs L s, HS b d c s → Gr b st s → b ≤ L → s[L]? = some (.lst xs) → RDs b s ds xs → ds.length ≤ 4 → (∀ x ∈ ds, EvD many x) → Q (.loc L) s) :
    Wp (eLc (iRange1 (eCallF m__law_draw [.inl 0, .inl 1] [] (aCons (eVar 1) (aCons (eC (.int 5)) aNil)))) (gNm 13) tYes' (eCallF m__law_event [.inl 0, .inl 1, .inl 2] [] (aCons (eVar 1) (aCons (eVar 3) (aCons (eC (.int 4)) aNil)))) [13] env st) Q E := by
  have w1 : ∀ v : Val, ((wipeE env [13]).set 13 (some v))[1]? = some (some (.loc d)) := fun v => by
    show ((env.set 13 none).set 13 (some v))[1]? = _
    rw [List.getElem?_set_ne (by decide), List.getElem?_set_ne (by decide)]; exact h0
  have w3 : ∀ v : Val, ((wipeE env [13]).set 13 (some v))[3]? = some (some (.int many)) := fun v => by
    show ((env.set 13 none).set 13 (some v))[3]? = _
    rw [List.getElem?_set_ne (by decide), List.getElem?_set_ne (by decide)]; exact h3
  have hq : Wp (eCallF m__law_draw [.inl 0, .inl 1] [] (aCons (eVar 1) (aCons (eC (.int 5)) aNil)) env st) (fun v s => ∃ r : Int, v = .int r ∧ 0 ≤ r ∧ r < 5 ∧ HS b d c s ∧ Gr b st s) noX := by
    simp only [W_callF, W_aCons, W_var, h0, getV_loc, Wp_ok, W_C, W_aNil, arr, List.map_cons, List.map_nil, List.getD_cons_zero, List.getD_cons_succ]
    exact dr h (by decide) (by decide) fun r s r1 r2 hs g => ⟨r, rfl, r1, r2, hs, g⟩
  cases q : eCallF m__law_draw [.inl 0, .inl 1] [] (aCons (eVar 1) (aCons (eC (.int 5)) aNil)) env st with
  | ok v s1 =>
    rw [q] at hq
    obtain ⟨r, rfl, r1, r2, hs1, g1⟩ := hq
    obtain ⟨n, hn⟩ : ∃ n : Nat, r = (n : Int) := ⟨r.toNat, by omega⟩
    refine lc_draws (st1 := s1) (EvD many) (fun d h => h.nl) (iRange1_ok (z := r) (k := n) q hn (by omega)) (fun p hp => by cases hp) hs1 (by simp; omega) (fun x s hx hs g => ?_) fun ds xs s hs g e1 hd hl hP => ?_
    · simp only [W_callF, W_aCons, W_var, w1, w3, getV_loc, getV_int, Wp_ok, W_C, W_aNil, arr, List.map_cons, List.map_nil, List.getD_cons_zero, List.getD_cons_succ]
      exact event_ok hs h1 h2 (by decide) (by decide) fun dv v s2 p1 p2 hs2 g2 => ⟨hs2, g2, dv, p1, p2⟩
    · refine k ds xs s1.length s hs (g1.trans g) hs1.hb e1 hd ?_ hP
      simp at hl
      omega
  | err _ _ => rw [q] at hq; exact hq.elim
  | stuck => rw [q] at hq; exact hq.elim
theorem tuple_wp {L : Nat} {xs : List Val} {s : Sto} {Q : Val → Sto → Prop} {E : Xn → Sto → Prop} (h : s[L]? = some (.lst xs)) (k : Q (.tup xs) s) : Wp (one' oTuple [.loc L] s) Q E :=
  Wp_of (by simp [one', oTuple, tupOf, lstOf, h]) k
theorem heard_non {x : Val} {dv : PyData} {many : Int} (h : HS b d c st) (hx : RD b st dv x) (hv : dSc many dv = none) (k : ∀ s, HS b d c s → Gr b st s → Q .non s) : Wp (m__law_heard [x, .int many] st) Q E := by
  obtain ⟨v, t, e1, r1⟩ := heard_ok (many := many) hx h.hb
  rw [hv, dHeard] at r1
  have : v = .non := by rw [RD] at r1; exact r1
  subst this
  exact Wp_of e1 (k _ (h.app t) (.app t))
theorem need_non {x : Val} {dv : PyData} {many : Int} (h : HS b d c st) (hx : RD b st dv x) (hv : dSc many dv = none) (k : ∀ s, HS b d c s → Gr b st s → Q .non s) : Wp (m_need_script [x, .int many] st) Q E := by
  obtain ⟨t, e1⟩ := need_script_ok (many := many) hx
  rw [hv] at e1
  exact Wp_of e1 (k _ (h.app t) (.app t))
theorem W_nestr (a b : Str) (st : Sto) (Q : Val → Sto → Prop) (E : Xn → Sto → Prop) : Wp (oEq true (.str a) (.str b) st) Q E = Q (.bl (!decide (a = b))) st := propext Iff.rfl
theorem W_notnon (st : Sto) (Q : Val → Sto → Prop) (E : Xn → Sto → Prop) : Wp (oIsN true .non .non st) Q E = Q (.bl false) st := propext Iff.rfl
/-- for bent in (..) -/
theorem bent_loop {many : Int} {D : Dx} {n m : Nat} (hn : n ≤ 38) (hm : m < 16777216) (A B : List (Option Val)) (hA : A.length = 9) (hA3 : A[3]? = some (some (.int many))) :
    ∀ (vs : List Val) (e9 : Option Val) (s : Sto), HS b d c s → (∀ v ∈ vs, GdN n m b s v) → (∀ e9 s', HS b d c s' → Gr b s s' → D.nx (A ++ e9 :: B) s') →
    WpS (forL [] (gNm 9) (sIf (tVal (eOp (oEq true) (eCallF m__law_heard [.inl 0, .inl 1] [] (aCons (eVar 9) (aCons (eVar 3) aNil))) (eCallF m__law_due [.inl 0, .inl 1] [] (aCons (eVar 9) (aCons (eVar 3) aNil))))) (sRet (eC (.bl false))) sNil) vs (A ++ e9 :: B) s) D
  | [], e9, s, hs, _, h => by
    unfold forL
    rw [if_pos (by simp)]
    exact h e9 s hs .refl
  | v :: vs, e9, s, hs, hv, h => by
    obtain ⟨dv, p1, p2⟩ := hv v List.mem_cons_self
    unfold forL
    rw [if_pos (by simp)]
    have g1 : gNm 9 v (A ++ e9 :: B) = some (A ++ some v :: B) := by
      show some ((A ++ e9 :: B).set 9 (some v)) = _
      rw [← hA, List.set_append_right _ _ (Nat.le_refl _)]
      simp
    have v9 : (A ++ some v :: B)[9]? = some (some v) := by rw [← hA]; simp
    have v3 : (A ++ some v :: B)[3]? = some (some (.int many)) := by rw [List.getElem?_append_left (by omega)]; exact hA3
    rw [g1]
    simp only [onG]
    have key : WpS ((sIf (tVal (eOp (oEq true) (eCallF m__law_heard [.inl 0, .inl 1] [] (aCons (eVar 9) (aCons (eVar 3) aNil))) (eCallF m__law_due [.inl 0, .inl 1] [] (aCons (eVar 9) (aCons (eVar 3) aNil))))) (sRet (eC (.bl false))) sNil) (A ++ some v :: B) s) ⟨fun e s' => e = A ++ some v :: B ∧ HS b d c s' ∧ Gr b s s', fun _ _ => False, fun _ _ => False, fun _ _ => False, fun _ _ _ => False⟩ := by
      simp only [W_sif, W_tVal, W_op, W_callF, W_aCons, W_var, v9, v3, p1.getV, getV_int, Wp_ok, W_aNil, arr, List.map_cons, List.map_nil, List.getD_cons_zero, List.getD_cons_succ]
      refine same_ok hs p1 p2 hn hm fun s' hs' g' => ⟨false, rfl, ?_⟩
      rw [if_neg (by simp), W_nil]
      exact ⟨rfl, hs', g'⟩
    cases q : (sIf (tVal (eOp (oEq true) (eCallF m__law_heard [.inl 0, .inl 1] [] (aCons (eVar 9) (aCons (eVar 3) aNil))) (eCallF m__law_due [.inl 0, .inl 1] [] (aCons (eVar 9) (aCons (eVar 3) aNil))))) (sRet (eC (.bl false))) sNil) (A ++ some v :: B) s with
    | nx e s' =>
      rw [q] at key
      obtain ⟨rfl, hs', g'⟩ := key
      exact bent_loop hn hm A B hA hA3 vs _ s' hs' (fun w hw => (hv w (List.mem_cons_of_mem _ hw)).gr g') fun e9 s2 hs2 g2 => h e9 s2 hs2 (g'.trans g2)
    | _ => rw [q] at key; exact key.elim
end
abbrev envI (ns : List Int) (d : Nat) (es : List (Option Val)) : Sm.Env := some (.scr ns) :: some (.loc d) :: es
theorem len13 {α : Type} {es : List α} (h : es.length = 13) : ∃ a b c d e f g i j k l m n, es = [a, b, c, d, e, f, g, i, j, k, l, m, n] := by
  match es, h with
  | [a, b, c, d, e, f, g, i, j, k, l, m, n], _ => exact ⟨a, b, c, d, e, f, g, i, j, k, l, m, n, rfl⟩
/-- one turn -/
noncomputable def turnB : Sx := (match b_law with | _ => sNil)
theorem rd_aD_det {b : Nat} {st : Sto} {a : Arr} {v : Val} (h : RD b st (aD a) v) : v = aV a := by
  obtain ⟨xs, rfl, h'⟩ := RD.tup_iff.mp h
  obtain ⟨x0, x1, x2, rfl, h0, h1, h2⟩ := RDs.three h'
  obtain ⟨ys, rfl, h3⟩ := RD.tup_iff.mp h2
  have e0 := RD.int_of h0
  have e1 := RD.int_of h1
  subst e0 e1
  have key : ∀ (ns : List Int) (zs : List Val), RDs b st (ns.map PyData.int) zs → zs = ivs ns := by
    intro ns
    induction ns with
    | nil => intro zs h; exact RDs.c0 h
    | cons n r ih =>
      intro zs h
      obtain ⟨z, t, rfl, q1, q2⟩ := RDs.uncons h
      rw [RD.int_of q1, ih t q2]; rfl
  rw [key _ _ h3]; rfl
theorem arrs_of {b : Nat} {st : Sto} : ∀ {ds : List PyData} {xs : List Val}, RDs b st ds xs → (∀ d ∈ ds, ∃ a, d = aD a ∧ ArrOk a) → ∃ as : List Arr, as.length = ds.length ∧ xs = as.map aV ∧ ∀ a ∈ as, ArrOk a
  | [], xs, h, _ => ⟨[], rfl, RDs.c0 h, fun _ h => by cases h⟩
  | d :: ds, xs, h, hd => by
    obtain ⟨x, r, rfl, h1, h2⟩ := RDs.uncons h
    obtain ⟨a, rfl, ha⟩ := hd d List.mem_cons_self
    obtain ⟨as, e1, e2, e3⟩ := arrs_of h2 fun x hx => hd x (List.mem_cons_of_mem _ hx)
    refine ⟨a :: as, by simp [e1], by rw [rd_aD_det h1, e2]; rfl, fun y hy => ?_⟩
    rcases List.mem_cons.mp hy with rfl | hy
    · exact ha
    · exact e3 y hy
theorem plain_law : ∀ ns : List Int, ns.length ≤ 63 → (∀ z ∈ ns, Builtin.Int.intBits z ≤ 1048576) → ∃ st', m_law [.scr ns] [] = .ok (.bl true) st' := by
  intro ns _ _
  suffices h : Wp (m_law [.scr ns] []) (fun v _ => v = .bl true) noX by
    cases q : m_law [.scr ns] [] with
    | ok v s => rw [q] at h; have : v = .bl true := h; subst this; exact ⟨s, rfl⟩
    | err _ _ => rw [q] at h; exact h.elim
    | stuck => rw [q] at h; exact h.elim
  unfold m_law b_law
  rw [Wp_run, WpS_seqL]
  simp only [List.map_cons, List.map_nil, List.length_cons, List.length_nil, List.cons_append, List.nil_append, List.replicate, Nat.reduceSub, Nat.reduceAdd]
  wtm_at "wp"
  have hh := heap_ok (ns := ns)
  rw [Ok_wp] at hh
  refine hh.imp (fun v s ⟨d, c, e, hd⟩ => ?_) fun _ _ z => z.elim
  subst e
  obtain ⟨l1, l2, _⟩ := hd.lt
  have hs : HS s.length d c s := ⟨hd, l1, l2, Nat.le_refl _⟩
  generalize s.length = b at hs
  rw [Later_eq, WpS_seqL, W_for, iRange1_ok (z := 6) (k := 6) (st1 := s) rfl rfl (by decide), Wp_ok]
  refine forL_wp (fun _ env s => ∃ es, es.length = 13 ∧ env = envI ns d es ∧ HS b d c s) (fun _ _ _ _ => by simp) (fun env s ⟨es, el, ee, hs⟩ => ?h0) (fun x r env s ⟨es, el, ee, hs⟩ => ?hs) _ _ _ ⟨_, rfl, rfl, hs⟩
  case hs =>
    obtain ⟨e2, e3, e4, e5, e6, e7, e8, e9, e10, e11, e12, e13, e14, rfl⟩ := len13 el
    subst ee
    refine ⟨_, rfl, ?_⟩
    simp only [List.set_cons_zero, List.set_cons_succ]
    wtm_at "wp"
    refine dr hs (by decide) (by decide) fun r1 s1 a1 a2 hs1 g1 => ?_
    rw [W_addint]
    rw [Later_eq, WpS_seqL, W_asg]
    refine events_ok (many := 1 + r1) rfl rfl hs1 (by omega) (by omega) fun ds xs L s2 hs2 g2 hL a2' hd hdl hP => ?_
    have sds : Smls 5 (ds.length * (2000 + 1)) ds := Smls.of_all (by omega) fun x hx => (hP x hx).sm
    have sds' : Smls 5 10000 ds := sds.mono (Nat.le_refl _) (by omega)
    have hxl := hd.length
    have rt : RD b s2 (.tuple ds) (.tup xs) := .tup hd
    wtm_at "wp"
    rw [Later_eq]
    wtm_at "wp"
    refine tuple_wp a2' ?_
    rw [Later_eq]
    wtm_at "wp"
    refine repr_wp rt (Sml.tup sds') (by omega) (by omega) ?_
    rw [Later_eq]
    wtm_at "wp"
    refine heard_non hs2 rt (valid_none hP) fun s3 hs3 g3 => ?_
    simp only [W_notnon, ↓W_ite_ex, Bool.false_eq_true, if_false]
    refine need_non hs3 (RD.gr g3 _ rt) (valid_none hP) fun s4 hs4 g4 => ?_
    have g24 := g3.trans g4
    simp only [W_notnon, ↓W_ite_ex, Bool.false_eq_true, if_false]
    refine repr_wp (RD.gr g24 _ rt) (Sml.tup sds') (by omega) (by omega) ?_
    simp only [↓W_nestr, decide_true, Bool.not_true, ↓W_ite_ex, Bool.false_eq_true, if_false]
    rw [Later_eq]
    wtm_at "wp"
    have a4 := g24.at hL a2'
    have ln : one' oLen [.loc L] s4 = .ok (.int ds.length) s4 := by simp [one', oLen, seqOf, a4, hxl]
    simp only [ln, ↓Wp_ok, ↓W_addint]
    refine dr hs4 (by omega) (by omega) fun r5 s5 b1 b2 hs5 g5 => ?_
    obtain ⟨n5, rfl⟩ : ∃ n5 : Nat, r5 = (n5 : Int) := ⟨r5.toNat, by omega⟩
    rw [Later_eq]
    wtm_at "wp"
    refine event_ok hs5 (by omega) (by omega) (by decide) (by decide) fun ev v s6 hev rv hs6 g6 => ?_
    refine spoilt_ok hs6 hev rv fun w s7 hw hs7 g7 => ?_
    have g27 := ((g24.trans g5).trans g6).trans g7
    have rt7 := RD.gr g27 _ rt
    rw [Later_eq, WpS_seqL, W_for, W_iSeq]
    wtm_at "wp"
    refine sl_wp rt7 fun y1 hy1 => ?_
    obtain ⟨dw, q1, q2⟩ := hw
    have one : Smls 6 9001 [dw] := (Smls.cons' q2 (Smls.nil.mono (by omega) (Nat.le_refl _))).mono (Nat.le_refl _) (by omega)
    have cut : ∀ lo hi, Smls 6 10000 (cutL ds lo hi) := fun lo hi => (Smls.sub sds' (cutL_sub ds lo hi) (by omega)).mono (by omega) (Nat.le_refl _)
    have lcut : ∀ lo hi, (cutL ds lo hi).length ≤ 4 := fun lo hi => Nat.le_trans (cutL_sub ds lo hi).length_le hdl
    have gw := Wg_ok q1.okV
    simp only [↓gw]
    refine add_wp hy1 (.tup (.cons q1 .nil)) (by have := lcut none (some (n5 : Int)); simp; omega) fun y2 hy2 => ?_
    refine sl_wp rt7 fun y3 hy3 => ?_
    refine add_wp hy2 hy3 (by have := lcut none (some (n5 : Int)); have := lcut (some (n5 : Int)) none; simp; omega) fun y4 hy4 => ?_
    refine add_wp rt7 (.tup (.cons q1 (.cons q1 .nil))) (by simp; omega) fun y5 hy5 => ?_
    have a7 := g27.at hL a2'
    have B : ∀ u ∈ [y4, y5, Val.loc L, w], GdN 8 60000 b s7 u := by
      intro u hu
      simp only [List.mem_cons, List.not_mem_nil, or_false] at hu
      rcases hu with rfl | rfl | rfl | rfl
      · exact .tup hy4 (((cut _ _).append one).append (cut _ _)) (by omega) (by omega)
      · exact .tup hy5 ((sds'.mono (by omega) (Nat.le_refl _)).append ((Smls.cons' q2 one).mono (Nat.le_refl _) (Nat.le_refl _))) (by omega) (by omega)
      · exact ⟨.list ds, .lst hL a7 (RDs.gr g27 _ hd), (Sml.lst sds').mono (by omega) (by omega)⟩
      · exact ⟨dw, q1, q2.mono (by omega) (by omega)⟩
    have i4 : ∀ env s, iSeq (eC (.tup [y4, y5, .loc L, w])) env s = .ok ([y4, y5, .loc L, w], []) s := fun env s => rfl
    simp only [i4, ↓Wp_ok]
    refine bent_loop (n := 8) (m := 60000) (many := 1 + r1) (by omega) (by omega) [some (.scr ns), some (.loc d), some x, some (.int (1 + r1)), some (.loc L), some (.tup xs), some (.str (PyData.tuple ds).shown), some (.int (n5 : Int)), some w] [e10, e11, e12, e13, e14] rfl rfl [y4, y5, .loc L, w] e9 s7 hs7 B fun e9' s8 hs8 g8 => ?_
    show Later _ _ _ _
    rw [Later_eq]
    simp only [List.cons_append, List.nil_append]
    wtm_at "wp"
    refine same_ok (n := 6) (m := 10000) hs8 (RD.gr (g27.trans g8) _ rt) (Sml.tup sds') (by omega) (by omega) fun s9 hs9 g9 => ?_
    simp only [↓W_ite_ex, Bool.false_eq_true, if_false, W_nil]
    exact ⟨_, rfl, rfl, hs9⟩
  case h0 =>
    obtain ⟨e2, e3, e4, e5, e6, e7, e8, e9, e10, e11, e12, e13, e14, rfl⟩ := len13 el
    subst ee
    show Later _ _ _ _
    rw [Later_eq, WpS_seqL, W_asg]
    have hq : Wp (eCallF m__law_draw [.inl 0, .inl 1] [] (aCons (eVar 1) (aCons (eC (.int 5)) aNil)) (envI ns d [e2, e3, e4, e5, e6, e7, e8, e9, e10, e11, e12, e13, e14]) s) (fun v s => ∃ r : Int, v = .int r ∧ 0 ≤ r ∧ r < 5 ∧ HS b d c s) noX := by
      wtm_at "wp"
      exact dr hs (by decide) (by decide) fun r s r1 r2 hs g => ⟨r, rfl, r1, r2, hs⟩
    cases q : eCallF m__law_draw [.inl 0, .inl 1] [] (aCons (eVar 1) (aCons (eC (.int 5)) aNil)) (envI ns d [e2, e3, e4, e5, e6, e7, e8, e9, e10, e11, e12, e13, e14]) s with
    | err _ _ => rw [q] at hq; exact hq.elim
    | stuck => rw [q] at hq; exact hq.elim
    | ok v s1 =>
    rw [q] at hq
    obtain ⟨r, rfl, r1, r2, hs1⟩ := hq
    obtain ⟨n, hn⟩ : ∃ n : Nat, r = (n : Int) := ⟨r.toNat, by omega⟩
    refine lc_draws (st1 := s1) (fun dv => ∃ a, dv = aD a ∧ ArrOk a) (fun dv ⟨a, e, _⟩ => by subst e; simp [aD, nol, nols, nols_ints]) (iRange1_ok (z := r) (k := n) q hn (by omega)) (fun p hp => by cases hp) hs1 (by simp; omega) (fun x s2 hx hs2 g => ?_) fun ds xs s2 hs2 g2 a2 hd hl hP => ?_
    · have w1 : (wipeE (envI ns d [e2, e3, e4, e5, e6, e7, e8, e9, e10, e11, e12, e13, e14]) [2]).set 2 (some x) = [some (.scr ns), some (.loc d), some x, e3, e4, e5, e6, e7, e8, e9, e10, e11, e12, e13, e14] := rfl
      rw [w1]
      wtm_at "wp"
      refine dr hs2 (by decide) (by decide) fun o s3 o1 o2 hs3 g3 => dr hs3 (by decide) (by decide) fun t s4 t1 t2 hs4 g4 => octets_ok (k := 2) hs4 rfl (by decide) fun bs s5 ho hbl hs5 g5 => ?_
      exact ⟨hs5, (g3.trans g4).trans g5, aD (o, t, bs), ⟨_, rfl, ⟨o1, o2⟩, ⟨t1, t2⟩, ho, hbl⟩, rd_aD (o, t, bs)⟩
    obtain ⟨as, la, rfl, hA⟩ := arrs_of hd hP
    have lN : as.length ≤ 4 := by
      simp at hl
      omega
    clear hd hP hl
    wtm_at "wp"
    generalize hL : s1.length = L at *
    rw [Later_eq]
    wtm_at "wp"
    refine dr hs2 (by decide) (by decide) fun made s3 m1 m2 hs3 g3 => ?_
    have hbL : b ≤ L := by rw [← hL]; exact hs1.hb
    have a3 := g3.at hbL a2
    have l1 : ∀ env : Sm.Env, env[10]? = some (some (.loc L)) → env.length = 15 → eLc (iSeq (eVar 10)) (gNm 14) tYes' (eOp oAdd (eTup (aCons (eC (.str ("forge" : Str))) aNil)) (eVar 14)) [14] env s3 = .ok (.loc s3.length) (s3 ++ [Ob.lst (as.map fV)]) := fun env he hl =>
      lc_mapG aV fV (iSeq_at (l := L) (by rw [eVar_eq, he]; rfl) a3) (fun p hp => by rw [List.mem_singleton.mp hp]; exact a3) (by omega) fun a s => ⟨_, rfl, by
        have : ((wipeE env [14]).set 14 (some (aV a)))[14]? = some (some (aV a)) := by
          show ((env.set 14 none).set 14 (some (aV a)))[14]? = _
          rw [List.getElem?_set_self (by simp; omega)]
        have ea : ∀ s, oAdd (.tup [.str "forge"]) (aV a) s = .ok (fV a) s := fun s => rfl
        have ga : ∀ s, getV (some (some (aV a))) s = .ok (aV a) s := fun s => rfl
        simp [this, ga, ea]⟩
    generalize hs4 : s3 ++ [Ob.lst (as.map fV)] = s4 at *
    have a4 : s4[L]? = some (.lst (as.map aV)) := by rw [← hs4]; exact pre_at (pre_app _) a3
    have b4 : s4[s3.length]? = some (.lst (as.map fV)) := by rw [← hs4]; exact at_new
    have ln : one' oLen [.loc L] s4 = .ok (.int as.length) s4 := by simp [one', oLen, seqOf, a4]
    have l2 : ∀ env : Sm.Env, env[10]? = some (some (.loc L)) → env[11]? = some (some (.int made)) → env.length = 15 → eLc (iRange1 (eCall (one' oLen) (aCons (eVar 10) aNil))) (gNm 7) tYes' (eTup (aCons (eC (.str ("bring" : Str))) (aCons (eOp oAdd (eVar 11) (eVar 7)) aNil))) [7] env s4 = .ok (.loc s4.length) (s4 ++ [Ob.lst ((List.range as.length).map (bV' made))]) := fun env he he2 hl =>
      lc_mapG (fun (i : Nat) => Val.int (i : Int)) (bV' made) (iRange1_ok (z := as.length) (k := as.length) (by simp [he, ln]) rfl (by omega)) (fun p hp => by cases hp) (by simp; omega) fun a s => ⟨_, rfl, by
        have h7 : ((wipeE env [7]).set 7 (some (.int (a : Int))))[7]? = some (some (.int (a : Int))) := by
          show ((env.set 7 none).set 7 (some (.int (a : Int))))[7]? = _
          rw [List.getElem?_set_self (by simp; omega)]
        have h11 : ((wipeE env [7]).set 7 (some (.int (a : Int))))[11]? = some (some (.int made)) := by
          show ((env.set 7 none).set 7 (some (.int (a : Int))))[11]? = _
          rw [List.getElem?_set_ne (by decide), List.getElem?_set_ne (by decide)]; exact he2
        simp [h7, h11, bV', oAdd_int]⟩
    generalize hs5 : s4 ++ [Ob.lst ((List.range as.length).map (bV' made))] = s5 at *
    have b5 : s5[s3.length]? = some (.lst (as.map fV)) := by rw [← hs5]; exact pre_at (pre_app _) b4
    have c5 : s5[s4.length]? = some (.lst ((List.range as.length).map (bV' made))) := by rw [← hs5]; exact at_new
    have a5 : s5[L]? = some (.lst (as.map aV)) := by rw [← hs5]; exact pre_at (pre_app _) a4
    have ad : oAdd (.loc s3.length) (.loc s4.length) s5 = .ok (.loc s5.length) (s5 ++ [.lst (as.map fV ++ (List.range as.length).map (bV' made))]) := by
      have : as.length + as.length ≤ 16777216 := by omega
      simp [oAdd, b5, c5, this]
    rw [Later_eq]
    wtm_at "wp"
    rw [l1 _ rfl rfl, Wp_ok, l2 _ rfl rfl rfl, Wp_ok, ad, Wp_ok]
    generalize hs6 : s5 ++ [Ob.lst (as.map fV ++ (List.range as.length).map (bV' made))] = s6 at *
    have a6 : s6[L]? = some (.lst (as.map aV)) := by rw [← hs6]; exact pre_at (pre_app _) a5
    have d6 : s6[s5.length]? = some (.lst (as.map fV ++ (List.range as.length).map (bV' made))) := by rw [← hs6]; exact at_new
    rw [Later_eq]
    wtm_at "wp"
    have sd := sml_scD hA lN ⟨m1, m2⟩
    obtain ⟨t6, q6⟩ := script_of_ok (st := s6) (made := made) (.inl ⟨L, rfl, a6⟩) lN
    rw [q6, Wp_ok]
    refine repr_wp (b := 0) (rd_scD as made) sd (by omega) (by omega) ?_
    refine tuple_wp (pre_at (pre_app t6) d6) ?_
    refine repr_wp (b := 0) (d := scD as made) (rd_scD as made) sd (by omega) (by omega) ?_
    simp only [↓W_seqstr, decide_true, ↓W_ite_ex, if_true]
    refine tuple_wp (pre_at (pre_app t6) a6) ?_
    obtain ⟨t7, q7⟩ := script_of_ok (st := s6 ++ t6) (x := .tup (as.map aV)) (made := made) (.inr rfl) lN
    rw [q7, Wp_ok]
    refine tuple_wp (pre_at (pre_app t7) (pre_at (pre_app t6) d6)) ?_
    refine eq_wp (b := 0) (d := scD as made) (e := scD as made) (rd_scD as made) (rd_scD as made) sd sd (by omega) (by omega) ?_
    simp only [Bool.false_eq_true, if_false]
    rw [eqv_self _ sd.sb.h]
end Lw

namespace Lw
open PySem L2 Sm
theorem txt_mk {w : World} {K : PySem.W.Frag} {h : Heap} {mg : Str → Option Value} (X : K.In h) (G : h.Ns mainGlobals mg)
    {tg_ADDRESSES : Tok}
    {tg_MOST : Tok}
    {f_is_text : Addr} {oc_is_text : Value} {od_is_text : Option Addr} {kV_is_text doc_is_text pm_is_text : Value} {an_is_text : Option Addr} {cd_is_text ct_is_text : Value} {sl_is_text : Array (Option Value)}
    {f_is_integer : Addr} {oc_is_integer : Value} {od_is_integer : Option Addr} {kV_is_integer doc_is_integer pm_is_integer : Value} {an_is_integer : Option Addr} {cd_is_integer ct_is_integer : Value} {sl_is_integer : Array (Option Value)}
    {f_is_below : Addr} {oc_is_below : Value} {od_is_below : Option Addr} {kV_is_below doc_is_below pm_is_below : Value} {an_is_below : Option Addr} {cd_is_below ct_is_below : Value} {sl_is_below : Array (Option Value)}
    {f_is_tuple_of : Addr} {oc_is_tuple_of : Value} {od_is_tuple_of : Option Addr} {kV_is_tuple_of doc_is_tuple_of pm_is_tuple_of : Value} {an_is_tuple_of : Option Addr} {cd_is_tuple_of ct_is_tuple_of : Value} {sl_is_tuple_of : Array (Option Value)}
    {f_wrong_place : Addr} {oc_wrong_place : Value} {od_wrong_place : Option Addr} {kV_wrong_place doc_wrong_place pm_wrong_place : Value} {an_wrong_place : Option Addr} {cd_wrong_place ct_wrong_place : Value} {sl_wrong_place : Array (Option Value)}
    {f_is_octets : Addr} {oc_is_octets : Value} {od_is_octets : Option Addr} {kV_is_octets doc_is_octets pm_is_octets : Value} {an_is_octets : Option Addr} {cd_is_octets ct_is_octets : Value} {sl_is_octets : Array (Option Value)}
    {f_need_letter : Addr} {oc_need_letter : Value} {od_need_letter : Option Addr} {kV_need_letter doc_need_letter pm_need_letter : Value} {an_need_letter : Option Addr} {cd_need_letter ct_need_letter : Value} {sl_need_letter : Array (Option Value)}
    {f_is_letter : Addr} {oc_is_letter : Value} {od_is_letter : Option Addr} {kV_is_letter doc_is_letter pm_is_letter : Value} {an_is_letter : Option Addr} {cd_is_letter ct_is_letter : Value} {sl_is_letter : Array (Option Value)}
    {f_is_put : Addr} {oc_is_put : Value} {od_is_put : Option Addr} {kV_is_put doc_is_put pm_is_put : Value} {an_is_put : Option Addr} {cd_is_put ct_is_put : Value} {sl_is_put : Array (Option Value)}
    {f_is_number : Addr} {oc_is_number : Value} {od_is_number : Option Addr} {kV_is_number doc_is_number pm_is_number : Value} {an_is_number : Option Addr} {cd_is_number ct_is_number : Value} {sl_is_number : Array (Option Value)}
    {f_is_numbered : Addr} {oc_is_numbered : Value} {od_is_numbered : Option Addr} {kV_is_numbered doc_is_numbered pm_is_numbered : Value} {an_is_numbered : Option Addr} {cd_is_numbered ct_is_numbered : Value} {sl_is_numbered : Array (Option Value)}
    {f_is_bend : Addr} {oc_is_bend : Value} {od_is_bend : Option Addr} {kV_is_bend doc_is_bend pm_is_bend : Value} {an_is_bend : Option Addr} {cd_is_bend ct_is_bend : Value} {sl_is_bend : Array (Option Value)}
    {f_is_forge : Addr} {oc_is_forge : Value} {od_is_forge : Option Addr} {kV_is_forge doc_is_forge pm_is_forge : Value} {an_is_forge : Option Addr} {cd_is_forge ct_is_forge : Value} {sl_is_forge : Array (Option Value)}
    {f_is_again : Addr} {oc_is_again : Value} {od_is_again : Option Addr} {kV_is_again doc_is_again pm_is_again : Value} {an_is_again : Option Addr} {cd_is_again ct_is_again : Value} {sl_is_again : Array (Option Value)}
    {f_is_move : Addr} {oc_is_move : Value} {od_is_move : Option Addr} {kV_is_move doc_is_move pm_is_move : Value} {an_is_move : Option Addr} {cd_is_move ct_is_move : Value} {sl_is_move : Array (Option Value)}
    {f_is_event : Addr} {oc_is_event : Value} {od_is_event : Option Addr} {kV_is_event doc_is_event pm_is_event : Value} {an_is_event : Option Addr} {cd_is_event ct_is_event : Value} {sl_is_event : Array (Option Value)}
    {f_need_script : Addr} {oc_need_script : Value} {od_need_script : Option Addr} {kV_need_script doc_need_script pm_need_script : Value} {an_need_script : Option Addr} {cd_need_script ct_need_script : Value} {sl_need_script : Array (Option Value)}
    {f_script_of : Addr} {oc_script_of : Value} {od_script_of : Option Addr} {kV_script_of doc_script_of pm_script_of : Value} {an_script_of : Option Addr} {cd_script_of ct_script_of : Value} {sl_script_of : Array (Option Value)}
    {f__law_heap : Addr} {oc__law_heap : Value} {od__law_heap : Option Addr} {kV__law_heap doc__law_heap pm__law_heap : Value} {an__law_heap : Option Addr} {cd__law_heap ct__law_heap : Value} {sl__law_heap : Array (Option Value)}
    {f__law_draw : Addr} {oc__law_draw : Value} {od__law_draw : Option Addr} {kV__law_draw doc__law_draw pm__law_draw : Value} {an__law_draw : Option Addr} {cd__law_draw ct__law_draw : Value} {sl__law_draw : Array (Option Value)}
    {f__law_pick : Addr} {oc__law_pick : Value} {od__law_pick : Option Addr} {kV__law_pick doc__law_pick pm__law_pick : Value} {an__law_pick : Option Addr} {cd__law_pick ct__law_pick : Value} {sl__law_pick : Array (Option Value)}
    {f__law_octets : Addr} {oc__law_octets : Value} {od__law_octets : Option Addr} {kV__law_octets doc__law_octets pm__law_octets : Value} {an__law_octets : Option Addr} {cd__law_octets ct__law_octets : Value} {sl__law_octets : Array (Option Value)}
    {f__law_letter : Addr} {oc__law_letter : Value} {od__law_letter : Option Addr} {kV__law_letter doc__law_letter pm__law_letter : Value} {an__law_letter : Option Addr} {cd__law_letter ct__law_letter : Value} {sl__law_letter : Array (Option Value)}
    {f__law_event : Addr} {oc__law_event : Value} {od__law_event : Option Addr} {kV__law_event doc__law_event pm__law_event : Value} {an__law_event : Option Addr} {cd__law_event ct__law_event : Value} {sl__law_event : Array (Option Value)}
    {f__law_heard : Addr} {oc__law_heard : Value} {od__law_heard : Option Addr} {kV__law_heard doc__law_heard pm__law_heard : Value} {an__law_heard : Option Addr} {cd__law_heard ct__law_heard : Value} {sl__law_heard : Array (Option Value)}
    {f__law_number : Addr} {oc__law_number : Value} {od__law_number : Option Addr} {kV__law_number doc__law_number pm__law_number : Value} {an__law_number : Option Addr} {cd__law_number ct__law_number : Value} {sl__law_number : Array (Option Value)}
    {f__law_is_octets : Addr} {oc__law_is_octets : Value} {od__law_is_octets : Option Addr} {kV__law_is_octets doc__law_is_octets pm__law_is_octets : Value} {an__law_is_octets : Option Addr} {cd__law_is_octets ct__law_is_octets : Value} {sl__law_is_octets : Array (Option Value)}
    {f__law_is_letter : Addr} {oc__law_is_letter : Value} {od__law_is_letter : Option Addr} {kV__law_is_letter doc__law_is_letter pm__law_is_letter : Value} {an__law_is_letter : Option Addr} {cd__law_is_letter ct__law_is_letter : Value} {sl__law_is_letter : Array (Option Value)}
    {f__law_is_event : Addr} {oc__law_is_event : Value} {od__law_is_event : Option Addr} {kV__law_is_event doc__law_is_event pm__law_is_event : Value} {an__law_is_event : Option Addr} {cd__law_is_event ct__law_is_event : Value} {sl__law_is_event : Array (Option Value)}
    {f__law_due : Addr} {oc__law_due : Value} {od__law_due : Option Addr} {kV__law_due doc__law_due pm__law_due : Value} {an__law_due : Option Addr} {cd__law_due ct__law_due : Value} {sl__law_due : Array (Option Value)}
    {f__law_spoilt : Addr} {oc__law_spoilt : Value} {od__law_spoilt : Option Addr} {kV__law_spoilt doc__law_spoilt pm__law_spoilt : Value} {an__law_spoilt : Option Addr} {cd__law_spoilt ct__law_spoilt : Value} {sl__law_spoilt : Array (Option Value)}
    {f_law : Addr} {oc_law : Value} {od_law : Option Addr} {kV_law doc_law pm_law : Value} {an_law : Option Addr} {cd_law ct_law : Value} {sl_law : Array (Option Value)}
    {c_InvalidLetter : Addr}
    {c_InvalidScript : Addr}
    {c_TunnelError : Addr}
    {t_InvalidLetter i_InvalidLetter k_InvalidLetter : Addr} {nm_InvalidLetter q_InvalidLetter : Str} {N_InvalidLetter : Addr} {bs_InvalidLetter : List Value} {sn_InvalidLetter : List Str} {sub_InvalidLetter : List Value} {ab_InvalidLetter : Bool} {col_InvalidLetter : Option Bool} {dd_InvalidLetter : Option Addr} {k0_InvalidLetter k1_InvalidLetter k2_InvalidLetter k3_InvalidLetter k5_InvalidLetter : Option Value}
    {xoc_InvalidLetter : Value} {xod_InvalidLetter : Option Addr} {xq_InvalidLetter : Str} {xdoc_InvalidLetter xpm_InvalidLetter : Value} {xan_InvalidLetter : Option Addr} {xcd_InvalidLetter : Addr} {xct_InvalidLetter : Value} {xsl_InvalidLetter : Array (Option Value)} {xcl_InvalidLetter : Value} {xcdd_InvalidLetter : Option Addr} {xvs_InvalidLetter : Array Value} {xcs_InvalidLetter : Array (Option Value)} {xfile_InvalidLetter : Str} {xtf_InvalidLetter : Tok} {ycl_InvalidLetter : Value} {ycd_InvalidLetter : Option Addr} {ysl_InvalidLetter : Array (Option Value)}
    {bcv_InvalidLetter : Value} {bdd_InvalidLetter : Option Addr} {bcd_InvalidLetter : ClassData} {bsl_InvalidLetter : Array (Option Value)}
    {t_InvalidScript i_InvalidScript k_InvalidScript : Addr} {nm_InvalidScript q_InvalidScript : Str} {N_InvalidScript : Addr} {bs_InvalidScript : List Value} {sn_InvalidScript : List Str} {sub_InvalidScript : List Value} {ab_InvalidScript : Bool} {col_InvalidScript : Option Bool} {dd_InvalidScript : Option Addr} {k0_InvalidScript k1_InvalidScript k2_InvalidScript k3_InvalidScript k5_InvalidScript : Option Value}
    {xoc_InvalidScript : Value} {xod_InvalidScript : Option Addr} {xq_InvalidScript : Str} {xdoc_InvalidScript xpm_InvalidScript : Value} {xan_InvalidScript : Option Addr} {xcd_InvalidScript : Addr} {xct_InvalidScript : Value} {xsl_InvalidScript : Array (Option Value)} {xcl_InvalidScript : Value} {xcdd_InvalidScript : Option Addr} {xvs_InvalidScript : Array Value} {xcs_InvalidScript : Array (Option Value)} {xfile_InvalidScript : Str} {xtf_InvalidScript : Tok} {ycl_InvalidScript : Value} {ycd_InvalidScript : Option Addr} {ysl_InvalidScript : Array (Option Value)}
    {bcv_InvalidScript : Value} {bdd_InvalidScript : Option Addr} {bcd_InvalidScript : ClassData} {bsl_InvalidScript : Array (Option Value)}
    {ad_LOOKS : Addr}
    (zn_abs : PySem.W.nsIn K mainGlobals ("abs" : Str) = some none)
    (zn_all : PySem.W.nsIn K mainGlobals ("all" : Str) = some none)
    (zn_bool : PySem.W.nsIn K mainGlobals ("bool" : Str) = some none)
    (zn_enumerate : PySem.W.nsIn K mainGlobals ("enumerate" : Str) = some none)
    (zn_int : PySem.W.nsIn K mainGlobals ("int" : Str) = some none)
    (zn_isinstance : PySem.W.nsIn K mainGlobals ("isinstance" : Str) = some none)
    (zn_len : PySem.W.nsIn K mainGlobals ("len" : Str) = some none)
    (zn_list : PySem.W.nsIn K mainGlobals ("list" : Str) = some none)
    (zn_max : PySem.W.nsIn K mainGlobals ("max" : Str) = some none)
    (zn_range : PySem.W.nsIn K mainGlobals ("range" : Str) = some none)
    (zn_repr : PySem.W.nsIn K mainGlobals ("repr" : Str) = some none)
    (zn_str : PySem.W.nsIn K mainGlobals ("str" : Str) = some none)
    (zn_tuple : PySem.W.nsIn K mainGlobals ("tuple" : Str) = some none)
    (zg_ADDRESSES : PySem.W.nsIn K mainGlobals ("ADDRESSES" : Str) = some (some (.int 4294967296 tg_ADDRESSES)))
    (zg_MOST : PySem.W.nsIn K mainGlobals ("MOST" : Str) = some (some (.int 65535 tg_MOST)))
    (za_is_text : PySem.W.nsIn K mainGlobals ("is_text" : Str) = some (some (.ref f_is_text)))
    (zl_is_text : K.lookup f_is_text = some ⟨oc_is_text, od_is_text, .func (PySem.W.fnOf ("is_text" : Str) ("is_text" : Str) (defArgs (top 8)) (defBody (top 8)) (defScope (top 8)) .none kV_is_text doc_is_text pm_is_text an_is_text cd_is_text ct_is_text), sl_is_text⟩)
    (zc_is_text : PySem.W.codeIn K cd_is_text ("is_text" : Str) = true)
    (zk_is_text : PySem.W.keepIn K (.ref f_is_text) = true)
    (za_is_integer : PySem.W.nsIn K mainGlobals ("is_integer" : Str) = some (some (.ref f_is_integer)))
    (zl_is_integer : K.lookup f_is_integer = some ⟨oc_is_integer, od_is_integer, .func (PySem.W.fnOf ("is_integer" : Str) ("is_integer" : Str) (defArgs (top 5)) (defBody (top 5)) (defScope (top 5)) .none kV_is_integer doc_is_integer pm_is_integer an_is_integer cd_is_integer ct_is_integer), sl_is_integer⟩)
    (zc_is_integer : PySem.W.codeIn K cd_is_integer ("is_integer" : Str) = true)
    (zk_is_integer : PySem.W.keepIn K (.ref f_is_integer) = true)
    (za_is_below : PySem.W.nsIn K mainGlobals ("is_below" : Str) = some (some (.ref f_is_below)))
    (zl_is_below : K.lookup f_is_below = some ⟨oc_is_below, od_is_below, .func (PySem.W.fnOf ("is_below" : Str) ("is_below" : Str) (defArgs (top 7)) (defBody (top 7)) (defScope (top 7)) .none kV_is_below doc_is_below pm_is_below an_is_below cd_is_below ct_is_below), sl_is_below⟩)
    (zc_is_below : PySem.W.codeIn K cd_is_below ("is_below" : Str) = true)
    (zk_is_below : PySem.W.keepIn K (.ref f_is_below) = true)
    (za_is_tuple_of : PySem.W.nsIn K mainGlobals ("is_tuple_of" : Str) = some (some (.ref f_is_tuple_of)))
    (zl_is_tuple_of : K.lookup f_is_tuple_of = some ⟨oc_is_tuple_of, od_is_tuple_of, .func (PySem.W.fnOf ("is_tuple_of" : Str) ("is_tuple_of" : Str) (defArgs (top 9)) (defBody (top 9)) (defScope (top 9)) .none kV_is_tuple_of doc_is_tuple_of pm_is_tuple_of an_is_tuple_of cd_is_tuple_of ct_is_tuple_of), sl_is_tuple_of⟩)
    (zc_is_tuple_of : PySem.W.codeIn K cd_is_tuple_of ("is_tuple_of" : Str) = true)
    (zk_is_tuple_of : PySem.W.keepIn K (.ref f_is_tuple_of) = true)
    (za_wrong_place : PySem.W.nsIn K mainGlobals ("wrong_place" : Str) = some (some (.ref f_wrong_place)))
    (zl_wrong_place : K.lookup f_wrong_place = some ⟨oc_wrong_place, od_wrong_place, .func (PySem.W.fnOf ("wrong_place" : Str) ("wrong_place" : Str) (defArgs (top 11)) (defBody (top 11)) (defScope (top 11)) .none kV_wrong_place doc_wrong_place pm_wrong_place an_wrong_place cd_wrong_place ct_wrong_place), sl_wrong_place⟩)
    (zc_wrong_place : PySem.W.codeIn K cd_wrong_place ("wrong_place" : Str) = true)
    (zk_wrong_place : PySem.W.keepIn K (.ref f_wrong_place) = true)
    (za_is_octets : PySem.W.nsIn K mainGlobals ("is_octets" : Str) = some (some (.ref f_is_octets)))
    (zl_is_octets : K.lookup f_is_octets = some ⟨oc_is_octets, od_is_octets, .func (PySem.W.fnOf ("is_octets" : Str) ("is_octets" : Str) (defArgs (top 12)) (defBody (top 12)) (defScope (top 12)) .none kV_is_octets doc_is_octets pm_is_octets an_is_octets cd_is_octets ct_is_octets), sl_is_octets⟩)
    (zc_is_octets : PySem.W.codeIn K cd_is_octets ("is_octets" : Str) = true)
    (zk_is_octets : PySem.W.keepIn K (.ref f_is_octets) = true)
    (za_need_letter : PySem.W.nsIn K mainGlobals ("need_letter" : Str) = some (some (.ref f_need_letter)))
    (zl_need_letter : K.lookup f_need_letter = some ⟨oc_need_letter, od_need_letter, .func (PySem.W.fnOf ("need_letter" : Str) ("need_letter" : Str) (defArgs (top 16)) (defBody (top 16)) (defScope (top 16)) .none kV_need_letter doc_need_letter pm_need_letter an_need_letter cd_need_letter ct_need_letter), sl_need_letter⟩)
    (zc_need_letter : PySem.W.codeIn K cd_need_letter ("need_letter" : Str) = true)
    (zk_need_letter : PySem.W.keepIn K (.ref f_need_letter) = true)
    (za_is_letter : PySem.W.nsIn K mainGlobals ("is_letter" : Str) = some (some (.ref f_is_letter)))
    (zl_is_letter : K.lookup f_is_letter = some ⟨oc_is_letter, od_is_letter, .func (PySem.W.fnOf ("is_letter" : Str) ("is_letter" : Str) (defArgs (top 18)) (defBody (top 18)) (defScope (top 18)) .none kV_is_letter doc_is_letter pm_is_letter an_is_letter cd_is_letter ct_is_letter), sl_is_letter⟩)
    (zc_is_letter : PySem.W.codeIn K cd_is_letter ("is_letter" : Str) = true)
    (zk_is_letter : PySem.W.keepIn K (.ref f_is_letter) = true)
    (za_is_put : PySem.W.nsIn K mainGlobals ("is_put" : Str) = some (some (.ref f_is_put)))
    (zl_is_put : K.lookup f_is_put = some ⟨oc_is_put, od_is_put, .func (PySem.W.fnOf ("is_put" : Str) ("is_put" : Str) (defArgs (top 19)) (defBody (top 19)) (defScope (top 19)) .none kV_is_put doc_is_put pm_is_put an_is_put cd_is_put ct_is_put), sl_is_put⟩)
    (zc_is_put : PySem.W.codeIn K cd_is_put ("is_put" : Str) = true)
    (zk_is_put : PySem.W.keepIn K (.ref f_is_put) = true)
    (za_is_number : PySem.W.nsIn K mainGlobals ("is_number" : Str) = some (some (.ref f_is_number)))
    (zl_is_number : K.lookup f_is_number = some ⟨oc_is_number, od_is_number, .func (PySem.W.fnOf ("is_number" : Str) ("is_number" : Str) (defArgs (top 6)) (defBody (top 6)) (defScope (top 6)) .none kV_is_number doc_is_number pm_is_number an_is_number cd_is_number ct_is_number), sl_is_number⟩)
    (zc_is_number : PySem.W.codeIn K cd_is_number ("is_number" : Str) = true)
    (zk_is_number : PySem.W.keepIn K (.ref f_is_number) = true)
    (za_is_numbered : PySem.W.nsIn K mainGlobals ("is_numbered" : Str) = some (some (.ref f_is_numbered)))
    (zl_is_numbered : K.lookup f_is_numbered = some ⟨oc_is_numbered, od_is_numbered, .func (PySem.W.fnOf ("is_numbered" : Str) ("is_numbered" : Str) (defArgs (top 20)) (defBody (top 20)) (defScope (top 20)) .none kV_is_numbered doc_is_numbered pm_is_numbered an_is_numbered cd_is_numbered ct_is_numbered), sl_is_numbered⟩)
    (zc_is_numbered : PySem.W.codeIn K cd_is_numbered ("is_numbered" : Str) = true)
    (zk_is_numbered : PySem.W.keepIn K (.ref f_is_numbered) = true)
    (za_is_bend : PySem.W.nsIn K mainGlobals ("is_bend" : Str) = some (some (.ref f_is_bend)))
    (zl_is_bend : K.lookup f_is_bend = some ⟨oc_is_bend, od_is_bend, .func (PySem.W.fnOf ("is_bend" : Str) ("is_bend" : Str) (defArgs (top 21)) (defBody (top 21)) (defScope (top 21)) .none kV_is_bend doc_is_bend pm_is_bend an_is_bend cd_is_bend ct_is_bend), sl_is_bend⟩)
    (zc_is_bend : PySem.W.codeIn K cd_is_bend ("is_bend" : Str) = true)
    (zk_is_bend : PySem.W.keepIn K (.ref f_is_bend) = true)
    (za_is_forge : PySem.W.nsIn K mainGlobals ("is_forge" : Str) = some (some (.ref f_is_forge)))
    (zl_is_forge : K.lookup f_is_forge = some ⟨oc_is_forge, od_is_forge, .func (PySem.W.fnOf ("is_forge" : Str) ("is_forge" : Str) (defArgs (top 22)) (defBody (top 22)) (defScope (top 22)) .none kV_is_forge doc_is_forge pm_is_forge an_is_forge cd_is_forge ct_is_forge), sl_is_forge⟩)
    (zc_is_forge : PySem.W.codeIn K cd_is_forge ("is_forge" : Str) = true)
    (zk_is_forge : PySem.W.keepIn K (.ref f_is_forge) = true)
    (za_is_again : PySem.W.nsIn K mainGlobals ("is_again" : Str) = some (some (.ref f_is_again)))
    (zl_is_again : K.lookup f_is_again = some ⟨oc_is_again, od_is_again, .func (PySem.W.fnOf ("is_again" : Str) ("is_again" : Str) (defArgs (top 23)) (defBody (top 23)) (defScope (top 23)) .none kV_is_again doc_is_again pm_is_again an_is_again cd_is_again ct_is_again), sl_is_again⟩)
    (zc_is_again : PySem.W.codeIn K cd_is_again ("is_again" : Str) = true)
    (zk_is_again : PySem.W.keepIn K (.ref f_is_again) = true)
    (za_is_move : PySem.W.nsIn K mainGlobals ("is_move" : Str) = some (some (.ref f_is_move)))
    (zl_is_move : K.lookup f_is_move = some ⟨oc_is_move, od_is_move, .func (PySem.W.fnOf ("is_move" : Str) ("is_move" : Str) (defArgs (top 24)) (defBody (top 24)) (defScope (top 24)) .none kV_is_move doc_is_move pm_is_move an_is_move cd_is_move ct_is_move), sl_is_move⟩)
    (zc_is_move : PySem.W.codeIn K cd_is_move ("is_move" : Str) = true)
    (zk_is_move : PySem.W.keepIn K (.ref f_is_move) = true)
    (za_is_event : PySem.W.nsIn K mainGlobals ("is_event" : Str) = some (some (.ref f_is_event)))
    (zl_is_event : K.lookup f_is_event = some ⟨oc_is_event, od_is_event, .func (PySem.W.fnOf ("is_event" : Str) ("is_event" : Str) (defArgs (top 26)) (defBody (top 26)) (defScope (top 26)) .none kV_is_event doc_is_event pm_is_event an_is_event cd_is_event ct_is_event), sl_is_event⟩)
    (zc_is_event : PySem.W.codeIn K cd_is_event ("is_event" : Str) = true)
    (zk_is_event : PySem.W.keepIn K (.ref f_is_event) = true)
    (za_need_script : PySem.W.nsIn K mainGlobals ("need_script" : Str) = some (some (.ref f_need_script)))
    (zl_need_script : K.lookup f_need_script = some ⟨oc_need_script, od_need_script, .func (PySem.W.fnOf ("need_script" : Str) ("need_script" : Str) (defArgs (top 27)) (defBody (top 27)) (defScope (top 27)) .none kV_need_script doc_need_script pm_need_script an_need_script cd_need_script ct_need_script), sl_need_script⟩)
    (zc_need_script : PySem.W.codeIn K cd_need_script ("need_script" : Str) = true)
    (zk_need_script : PySem.W.keepIn K (.ref f_need_script) = true)
    (za_script_of : PySem.W.nsIn K mainGlobals ("script_of" : Str) = some (some (.ref f_script_of)))
    (zl_script_of : K.lookup f_script_of = some ⟨oc_script_of, od_script_of, .func (PySem.W.fnOf ("script_of" : Str) ("script_of" : Str) (defArgs (top 28)) (defBody (top 28)) (defScope (top 28)) .none kV_script_of doc_script_of pm_script_of an_script_of cd_script_of ct_script_of), sl_script_of⟩)
    (zc_script_of : PySem.W.codeIn K cd_script_of ("script_of" : Str) = true)
    (zk_script_of : PySem.W.keepIn K (.ref f_script_of) = true)
    (za__law_heap : PySem.W.nsIn K mainGlobals ("_law_heap" : Str) = some (some (.ref f__law_heap)))
    (zl__law_heap : K.lookup f__law_heap = some ⟨oc__law_heap, od__law_heap, .func (PySem.W.fnOf ("_law_heap" : Str) ("_law_heap" : Str) (defArgs (top 30)) (defBody (top 30)) (defScope (top 30)) .none kV__law_heap doc__law_heap pm__law_heap an__law_heap cd__law_heap ct__law_heap), sl__law_heap⟩)
    (zc__law_heap : PySem.W.codeIn K cd__law_heap ("_law_heap" : Str) = true)
    (zk__law_heap : PySem.W.keepIn K (.ref f__law_heap) = true)
    (za__law_draw : PySem.W.nsIn K mainGlobals ("_law_draw" : Str) = some (some (.ref f__law_draw)))
    (zl__law_draw : K.lookup f__law_draw = some ⟨oc__law_draw, od__law_draw, .func (PySem.W.fnOf ("_law_draw" : Str) ("_law_draw" : Str) (defArgs (top 31)) (defBody (top 31)) (defScope (top 31)) .none kV__law_draw doc__law_draw pm__law_draw an__law_draw cd__law_draw ct__law_draw), sl__law_draw⟩)
    (zc__law_draw : PySem.W.codeIn K cd__law_draw ("_law_draw" : Str) = true)
    (zk__law_draw : PySem.W.keepIn K (.ref f__law_draw) = true)
    (za__law_pick : PySem.W.nsIn K mainGlobals ("_law_pick" : Str) = some (some (.ref f__law_pick)))
    (zl__law_pick : K.lookup f__law_pick = some ⟨oc__law_pick, od__law_pick, .func (PySem.W.fnOf ("_law_pick" : Str) ("_law_pick" : Str) (defArgs (top 32)) (defBody (top 32)) (defScope (top 32)) .none kV__law_pick doc__law_pick pm__law_pick an__law_pick cd__law_pick ct__law_pick), sl__law_pick⟩)
    (zc__law_pick : PySem.W.codeIn K cd__law_pick ("_law_pick" : Str) = true)
    (zk__law_pick : PySem.W.keepIn K (.ref f__law_pick) = true)
    (za__law_octets : PySem.W.nsIn K mainGlobals ("_law_octets" : Str) = some (some (.ref f__law_octets)))
    (zl__law_octets : K.lookup f__law_octets = some ⟨oc__law_octets, od__law_octets, .func (PySem.W.fnOf ("_law_octets" : Str) ("_law_octets" : Str) (defArgs (top 33)) (defBody (top 33)) (defScope (top 33)) .none kV__law_octets doc__law_octets pm__law_octets an__law_octets cd__law_octets ct__law_octets), sl__law_octets⟩)
    (zc__law_octets : PySem.W.codeIn K cd__law_octets ("_law_octets" : Str) = true)
    (zk__law_octets : PySem.W.keepIn K (.ref f__law_octets) = true)
    (za__law_letter : PySem.W.nsIn K mainGlobals ("_law_letter" : Str) = some (some (.ref f__law_letter)))
    (zl__law_letter : K.lookup f__law_letter = some ⟨oc__law_letter, od__law_letter, .func (PySem.W.fnOf ("_law_letter" : Str) ("_law_letter" : Str) (defArgs (top 34)) (defBody (top 34)) (defScope (top 34)) .none kV__law_letter doc__law_letter pm__law_letter an__law_letter cd__law_letter ct__law_letter), sl__law_letter⟩)
    (zc__law_letter : PySem.W.codeIn K cd__law_letter ("_law_letter" : Str) = true)
    (zk__law_letter : PySem.W.keepIn K (.ref f__law_letter) = true)
    (za__law_event : PySem.W.nsIn K mainGlobals ("_law_event" : Str) = some (some (.ref f__law_event)))
    (zl__law_event : K.lookup f__law_event = some ⟨oc__law_event, od__law_event, .func (PySem.W.fnOf ("_law_event" : Str) ("_law_event" : Str) (defArgs (top 35)) (defBody (top 35)) (defScope (top 35)) .none kV__law_event doc__law_event pm__law_event an__law_event cd__law_event ct__law_event), sl__law_event⟩)
    (zc__law_event : PySem.W.codeIn K cd__law_event ("_law_event" : Str) = true)
    (zk__law_event : PySem.W.keepIn K (.ref f__law_event) = true)
    (za__law_heard : PySem.W.nsIn K mainGlobals ("_law_heard" : Str) = some (some (.ref f__law_heard)))
    (zl__law_heard : K.lookup f__law_heard = some ⟨oc__law_heard, od__law_heard, .func (PySem.W.fnOf ("_law_heard" : Str) ("_law_heard" : Str) (defArgs (top 40)) (defBody (top 40)) (defScope (top 40)) .none kV__law_heard doc__law_heard pm__law_heard an__law_heard cd__law_heard ct__law_heard), sl__law_heard⟩)
    (zc__law_heard : PySem.W.codeIn K cd__law_heard ("_law_heard" : Str) = true)
    (zk__law_heard : PySem.W.keepIn K (.ref f__law_heard) = true)
    (za__law_number : PySem.W.nsIn K mainGlobals ("_law_number" : Str) = some (some (.ref f__law_number)))
    (zl__law_number : K.lookup f__law_number = some ⟨oc__law_number, od__law_number, .func (PySem.W.fnOf ("_law_number" : Str) ("_law_number" : Str) (defArgs (top 36)) (defBody (top 36)) (defScope (top 36)) .none kV__law_number doc__law_number pm__law_number an__law_number cd__law_number ct__law_number), sl__law_number⟩)
    (zc__law_number : PySem.W.codeIn K cd__law_number ("_law_number" : Str) = true)
    (zk__law_number : PySem.W.keepIn K (.ref f__law_number) = true)
    (za__law_is_octets : PySem.W.nsIn K mainGlobals ("_law_is_octets" : Str) = some (some (.ref f__law_is_octets)))
    (zl__law_is_octets : K.lookup f__law_is_octets = some ⟨oc__law_is_octets, od__law_is_octets, .func (PySem.W.fnOf ("_law_is_octets" : Str) ("_law_is_octets" : Str) (defArgs (top 37)) (defBody (top 37)) (defScope (top 37)) .none kV__law_is_octets doc__law_is_octets pm__law_is_octets an__law_is_octets cd__law_is_octets ct__law_is_octets), sl__law_is_octets⟩)
    (zc__law_is_octets : PySem.W.codeIn K cd__law_is_octets ("_law_is_octets" : Str) = true)
    (zk__law_is_octets : PySem.W.keepIn K (.ref f__law_is_octets) = true)
    (za__law_is_letter : PySem.W.nsIn K mainGlobals ("_law_is_letter" : Str) = some (some (.ref f__law_is_letter)))
    (zl__law_is_letter : K.lookup f__law_is_letter = some ⟨oc__law_is_letter, od__law_is_letter, .func (PySem.W.fnOf ("_law_is_letter" : Str) ("_law_is_letter" : Str) (defArgs (top 38)) (defBody (top 38)) (defScope (top 38)) .none kV__law_is_letter doc__law_is_letter pm__law_is_letter an__law_is_letter cd__law_is_letter ct__law_is_letter), sl__law_is_letter⟩)
    (zc__law_is_letter : PySem.W.codeIn K cd__law_is_letter ("_law_is_letter" : Str) = true)
    (zk__law_is_letter : PySem.W.keepIn K (.ref f__law_is_letter) = true)
    (za__law_is_event : PySem.W.nsIn K mainGlobals ("_law_is_event" : Str) = some (some (.ref f__law_is_event)))
    (zl__law_is_event : K.lookup f__law_is_event = some ⟨oc__law_is_event, od__law_is_event, .func (PySem.W.fnOf ("_law_is_event" : Str) ("_law_is_event" : Str) (defArgs (top 39)) (defBody (top 39)) (defScope (top 39)) .none kV__law_is_event doc__law_is_event pm__law_is_event an__law_is_event cd__law_is_event ct__law_is_event), sl__law_is_event⟩)
    (zc__law_is_event : PySem.W.codeIn K cd__law_is_event ("_law_is_event" : Str) = true)
    (zk__law_is_event : PySem.W.keepIn K (.ref f__law_is_event) = true)
    (za__law_due : PySem.W.nsIn K mainGlobals ("_law_due" : Str) = some (some (.ref f__law_due)))
    (zl__law_due : K.lookup f__law_due = some ⟨oc__law_due, od__law_due, .func (PySem.W.fnOf ("_law_due" : Str) ("_law_due" : Str) (defArgs (top 41)) (defBody (top 41)) (defScope (top 41)) .none kV__law_due doc__law_due pm__law_due an__law_due cd__law_due ct__law_due), sl__law_due⟩)
    (zc__law_due : PySem.W.codeIn K cd__law_due ("_law_due" : Str) = true)
    (zk__law_due : PySem.W.keepIn K (.ref f__law_due) = true)
    (za__law_spoilt : PySem.W.nsIn K mainGlobals ("_law_spoilt" : Str) = some (some (.ref f__law_spoilt)))
    (zl__law_spoilt : K.lookup f__law_spoilt = some ⟨oc__law_spoilt, od__law_spoilt, .func (PySem.W.fnOf ("_law_spoilt" : Str) ("_law_spoilt" : Str) (defArgs (top 42)) (defBody (top 42)) (defScope (top 42)) .none kV__law_spoilt doc__law_spoilt pm__law_spoilt an__law_spoilt cd__law_spoilt ct__law_spoilt), sl__law_spoilt⟩)
    (zc__law_spoilt : PySem.W.codeIn K cd__law_spoilt ("_law_spoilt" : Str) = true)
    (zk__law_spoilt : PySem.W.keepIn K (.ref f__law_spoilt) = true)
    (za_law : PySem.W.nsIn K mainGlobals ("law" : Str) = some (some (.ref f_law)))
    (zl_law : K.lookup f_law = some ⟨oc_law, od_law, .func (PySem.W.fnOf ("law" : Str) ("law" : Str) (defArgs (top 43)) (defBody (top 43)) (defScope (top 43)) .none kV_law doc_law pm_law an_law cd_law ct_law), sl_law⟩)
    (zc_law : PySem.W.codeIn K cd_law ("law" : Str) = true)
    (zk_law : PySem.W.keepIn K (.ref f_law) = true)
    (zsup : PySem.W.nsIn K mainGlobals "super" = some none)
    (zno3 : PySem.W.nsIn K PySem.cStatics "thirdparty.any" = some none)
    (zx_InvalidLetter : PySem.W.nsIn K mainGlobals ("InvalidLetter" : Str) = some (some (.ref c_InvalidLetter)))
    (zx_InvalidScript : PySem.W.nsIn K mainGlobals ("InvalidScript" : Str) = some (some (.ref c_InvalidScript)))
    (zx_TunnelError : PySem.W.nsIn K mainGlobals ("TunnelError" : Str) = some (some (.ref c_TunnelError)))
    (xk_InvalidLetter : PySem.W.keepIn K (.ref c_InvalidLetter) = true)
    (xc_InvalidLetter : K.lookup c_InvalidLetter = some (excClassObj nm_InvalidLetter q_InvalidLetter c_InvalidLetter N_InvalidLetter bs_InvalidLetter [.ref t_InvalidLetter, .type "Exception", .type "BaseException", .type "object"] true sn_InvalidLetter sub_InvalidLetter ab_InvalidLetter col_InvalidLetter dd_InvalidLetter k0_InvalidLetter k1_InvalidLetter k2_InvalidLetter k3_InvalidLetter k5_InvalidLetter "Exception.__new__"))
    (xs_InvalidLetter : PySem.W.findIn K (.ref c_InvalidLetter) "__setattr__" = some (some (.builtin "object.__setattr__")))
    (xn_InvalidLetter : PySem.W.findIn K (.ref c_InvalidLetter) ("at" : Str) = some none)
    (xi_InvalidLetter : PySem.W.findIn K (.ref c_InvalidLetter) "__init__" = some (some (.ref i_InvalidLetter)))
    (xt_InvalidLetter : PySem.W.typeIn K (.ref i_InvalidLetter) = some (.type "function"))
    (xl_InvalidLetter : K.lookup t_InvalidLetter = some ⟨bcv_InvalidLetter, bdd_InvalidLetter, .cls bcd_InvalidLetter, bsl_InvalidLetter⟩)
    (xm_InvalidLetter : bcd_InvalidLetter.mro = [.ref t_InvalidLetter, .type "Exception", .type "BaseException", .type "object"])
    (xa_InvalidLetter : PySem.W.findIn K (.ref t_InvalidLetter) "__init__" = some (some (.builtin "Exception.__init__")))
    (xe_InvalidLetter : PySem.W.subIn K (.ref c_InvalidLetter) (.type "BaseException") = some true)
    (xy_InvalidLetter : PySem.W.typeIn K (.ref c_InvalidLetter) = some (.type "type"))
    (xf_InvalidLetter : K.lookup i_InvalidLetter = some ⟨xoc_InvalidLetter, xod_InvalidLetter, .func (PySem.W.fnX "__init__" xq_InvalidLetter (xA ("at" : Str) ⟨6, 17, 6, 21⟩ ⟨6, 23, 6, 25⟩) (xB ("at" : Str) ⟨7, 8, 7, 13⟩ ⟨7, 8, 7, 15⟩ ⟨7, 8, 7, 24⟩ ⟨7, 25, 7, 27⟩ ⟨7, 8, 7, 28⟩ ⟨7, 8, 7, 28⟩ ⟨8, 8, 8, 12⟩ ⟨8, 8, 8, 15⟩ ⟨8, 18, 8, 20⟩ ⟨8, 8, 8, 20⟩) (xS ("at" : Str)) [("__class__", k_InvalidLetter)] .none .none xdoc_InvalidLetter xpm_InvalidLetter xan_InvalidLetter (.ref xcd_InvalidLetter) xct_InvalidLetter), xsl_InvalidLetter⟩)
    (xd_InvalidLetter : PySem.W.codeIn K (.ref xcd_InvalidLetter) xq_InvalidLetter = true)
    (xv_InvalidLetter : K.lookup xcd_InvalidLetter = some ⟨xcl_InvalidLetter, xcdd_InvalidLetter, .fields xvs_InvalidLetter, xcs_InvalidLetter⟩)
    (xw_InvalidLetter : xvs_InvalidLetter[2]? = some (.str xfile_InvalidLetter xtf_InvalidLetter))
    (xg_InvalidLetter : ((PySem.Challenge.pw_putinonce_k73_any_values_as_scripts.main.file : Str) == xfile_InvalidLetter) = true)
    (xh_InvalidLetter : K.lookup k_InvalidLetter = some ⟨ycl_InvalidLetter, ycd_InvalidLetter, .cell (some (.ref c_InvalidLetter)), ysl_InvalidLetter⟩)
    (xk_InvalidScript : PySem.W.keepIn K (.ref c_InvalidScript) = true)
    (xc_InvalidScript : K.lookup c_InvalidScript = some (excClassObj nm_InvalidScript q_InvalidScript c_InvalidScript N_InvalidScript bs_InvalidScript [.ref t_InvalidScript, .type "Exception", .type "BaseException", .type "object"] true sn_InvalidScript sub_InvalidScript ab_InvalidScript col_InvalidScript dd_InvalidScript k0_InvalidScript k1_InvalidScript k2_InvalidScript k3_InvalidScript k5_InvalidScript "Exception.__new__"))
    (xs_InvalidScript : PySem.W.findIn K (.ref c_InvalidScript) "__setattr__" = some (some (.builtin "object.__setattr__")))
    (xn_InvalidScript : PySem.W.findIn K (.ref c_InvalidScript) ("at" : Str) = some none)
    (xi_InvalidScript : PySem.W.findIn K (.ref c_InvalidScript) "__init__" = some (some (.ref i_InvalidScript)))
    (xt_InvalidScript : PySem.W.typeIn K (.ref i_InvalidScript) = some (.type "function"))
    (xl_InvalidScript : K.lookup t_InvalidScript = some ⟨bcv_InvalidScript, bdd_InvalidScript, .cls bcd_InvalidScript, bsl_InvalidScript⟩)
    (xm_InvalidScript : bcd_InvalidScript.mro = [.ref t_InvalidScript, .type "Exception", .type "BaseException", .type "object"])
    (xa_InvalidScript : PySem.W.findIn K (.ref t_InvalidScript) "__init__" = some (some (.builtin "Exception.__init__")))
    (xe_InvalidScript : PySem.W.subIn K (.ref c_InvalidScript) (.type "BaseException") = some true)
    (xy_InvalidScript : PySem.W.typeIn K (.ref c_InvalidScript) = some (.type "type"))
    (xf_InvalidScript : K.lookup i_InvalidScript = some ⟨xoc_InvalidScript, xod_InvalidScript, .func (PySem.W.fnX "__init__" xq_InvalidScript (xA ("at" : Str) ⟨11, 17, 11, 21⟩ ⟨11, 23, 11, 25⟩) (xB ("at" : Str) ⟨12, 8, 12, 13⟩ ⟨12, 8, 12, 15⟩ ⟨12, 8, 12, 24⟩ ⟨12, 25, 12, 27⟩ ⟨12, 8, 12, 28⟩ ⟨12, 8, 12, 28⟩ ⟨13, 8, 13, 12⟩ ⟨13, 8, 13, 15⟩ ⟨13, 18, 13, 20⟩ ⟨13, 8, 13, 20⟩) (xS ("at" : Str)) [("__class__", k_InvalidScript)] .none .none xdoc_InvalidScript xpm_InvalidScript xan_InvalidScript (.ref xcd_InvalidScript) xct_InvalidScript), xsl_InvalidScript⟩)
    (xd_InvalidScript : PySem.W.codeIn K (.ref xcd_InvalidScript) xq_InvalidScript = true)
    (xv_InvalidScript : K.lookup xcd_InvalidScript = some ⟨xcl_InvalidScript, xcdd_InvalidScript, .fields xvs_InvalidScript, xcs_InvalidScript⟩)
    (xw_InvalidScript : xvs_InvalidScript[2]? = some (.str xfile_InvalidScript xtf_InvalidScript))
    (xg_InvalidScript : ((PySem.Challenge.pw_putinonce_k73_any_values_as_scripts.main.file : Str) == xfile_InvalidScript) = true)
    (xh_InvalidScript : K.lookup k_InvalidScript = some ⟨ycl_InvalidScript, ycd_InvalidScript, .cell (some (.ref c_InvalidScript)), ysl_InvalidScript⟩)
    (vs_InvalidLetter : PySem.W.subIn K (.ref c_InvalidLetter) (.type "BaseException") = some true)
    (vc_InvalidLetter : PySem.W.isClsIn K c_InvalidLetter = true)
    (vt_InvalidLetter : PySem.W.typeIn K (.ref c_InvalidLetter) = some (.type "type"))
    (vs_InvalidScript : PySem.W.subIn K (.ref c_InvalidScript) (.type "BaseException") = some true)
    (vc_InvalidScript : PySem.W.isClsIn K c_InvalidScript = true)
    (vt_InvalidScript : PySem.W.typeIn K (.ref c_InvalidScript) = some (.type "type"))
    (vs_TunnelError : PySem.W.subIn K (.ref c_TunnelError) (.type "BaseException") = some true)
    (vc_TunnelError : PySem.W.isClsIn K c_TunnelError = true)
    (vt_TunnelError : PySem.W.typeIn K (.ref c_TunnelError) = some (.type "type"))
    (hg_InvalidScript : PySem.W.findIn K (.ref c_InvalidScript) "__getattribute__" = some (some (.builtin "BaseException.__getattribute__")))
    (hk_InvalidScript : PySem.W.findIn K (.ref c_InvalidScript) "__getattr__" = some none)
    (hd_InvalidScript : PySem.W.hasDictIn K c_InvalidScript = true)
    (ha_InvalidScript : PySem.W.findIn K (.ref c_InvalidScript) "__class__" = some (some (.builtin "object.__class__")))
    (hm_InvalidScript : PySem.W.mroIn K c_InvalidScript (.type "object") = some true)
    (hn_ : PySem.W.specialIn K (.builtin "object.__class__") "__get__" = some (some (.builtin "getset_descriptor.__get__")))
    (ht_ : PySem.W.takesIn K (.builtin "object.__class__") = some true)
    (zg_LOOKS : PySem.W.nsIn K mainGlobals ("LOOKS" : Str) = some (some (.ref ad_LOOKS)))
    (zd_LOOKS : He.dicW K ad_LOOKS = some (He.keysIn w.params [("put" : Str), ("bring" : Str), ("bend" : Str), ("forge" : Str), ("again" : Str), ("drop" : Str), ("move" : Str), ("tick" : Str)]))
    (zv_LOOKS_7 : PySem.W.nsIn K ad_LOOKS ("tick" : Str) = some (some (.ref f_is_numbered)))
    (zv_LOOKS_6 : PySem.W.nsIn K ad_LOOKS ("move" : Str) = some (some (.ref f_is_move)))
    (zv_LOOKS_5 : PySem.W.nsIn K ad_LOOKS ("drop" : Str) = some (some (.ref f_is_numbered)))
    (zv_LOOKS_4 : PySem.W.nsIn K ad_LOOKS ("again" : Str) = some (some (.ref f_is_again)))
    (zv_LOOKS_3 : PySem.W.nsIn K ad_LOOKS ("forge" : Str) = some (some (.ref f_is_forge)))
    (zv_LOOKS_2 : PySem.W.nsIn K ad_LOOKS ("bend" : Str) = some (some (.ref f_is_bend)))
    (zv_LOOKS_1 : PySem.W.nsIn K ad_LOOKS ("bring" : Str) = some (some (.ref f_is_numbered)))
    (zv_LOOKS_0 : PySem.W.nsIn K ad_LOOKS ("put" : Str) = some (some (.ref f_is_put)))
    (ze_0 : PySem.W.subIn K (.ref c_InvalidLetter) (.ref c_InvalidLetter) = some true)
    (ze_1 : PySem.W.subIn K (.ref c_InvalidLetter) (.ref c_InvalidScript) = some false)
    (ze_2 : PySem.W.subIn K (.ref c_InvalidScript) (.ref c_InvalidLetter) = some false)
    (ze_3 : PySem.W.subIn K (.ref c_InvalidScript) (.ref c_InvalidScript) = some true)
    (zq_0 : PySem.W.findIn K (.ref c_InvalidScript) ("at" : Str) = some none)
    (zo_0 : PySem.W.subIn K (.ref c_InvalidScript) (.ref c_TunnelError) = some true)
    : Txt PySem.Challenge.pw_putinonce_k73_any_values_as_scripts w K mg where
  n_abs := PySem.W.mg_none_of X G zn_abs
  n_all := PySem.W.mg_none_of X G zn_all
  n_bool := PySem.W.mg_none_of X G zn_bool
  n_enumerate := PySem.W.mg_none_of X G zn_enumerate
  n_int := PySem.W.mg_none_of X G zn_int
  n_isinstance := PySem.W.mg_none_of X G zn_isinstance
  n_len := PySem.W.mg_none_of X G zn_len
  n_list := PySem.W.mg_none_of X G zn_list
  n_max := PySem.W.mg_none_of X G zn_max
  n_range := PySem.W.mg_none_of X G zn_range
  n_repr := PySem.W.mg_none_of X G zn_repr
  n_str := PySem.W.mg_none_of X G zn_str
  n_tuple := PySem.W.mg_none_of X G zn_tuple
  g_ADDRESSES := ⟨_, PySem.W.mg_of X G zg_ADDRESSES⟩
  g_MOST := ⟨_, PySem.W.mg_of X G zg_MOST⟩
  d_is_text := ⟨f_is_text, _, _, _, _, _, _, _, _, _, _, PySem.W.mg_of X G za_is_text, zl_is_text, zc_is_text, zk_is_text, .inl ⟨rfl, rfl⟩⟩
  d_is_integer := ⟨f_is_integer, _, _, _, _, _, _, _, _, _, _, PySem.W.mg_of X G za_is_integer, zl_is_integer, zc_is_integer, zk_is_integer, .inl ⟨rfl, rfl⟩⟩
  d_is_below := ⟨f_is_below, _, _, _, _, _, _, _, _, _, _, PySem.W.mg_of X G za_is_below, zl_is_below, zc_is_below, zk_is_below, .inl ⟨rfl, rfl⟩⟩
  d_is_tuple_of := ⟨f_is_tuple_of, _, _, _, _, _, _, _, _, _, _, PySem.W.mg_of X G za_is_tuple_of, zl_is_tuple_of, zc_is_tuple_of, zk_is_tuple_of, .inl ⟨rfl, rfl⟩⟩
  d_wrong_place := ⟨f_wrong_place, _, _, _, _, _, _, _, _, _, _, PySem.W.mg_of X G za_wrong_place, zl_wrong_place, zc_wrong_place, zk_wrong_place, .inl ⟨rfl, rfl⟩⟩
  d_is_octets := ⟨f_is_octets, _, _, _, _, _, _, _, _, _, _, PySem.W.mg_of X G za_is_octets, zl_is_octets, zc_is_octets, zk_is_octets, .inl ⟨rfl, rfl⟩⟩
  d_need_letter := ⟨f_need_letter, _, _, _, _, _, _, _, _, _, _, PySem.W.mg_of X G za_need_letter, zl_need_letter, zc_need_letter, zk_need_letter, .inl ⟨rfl, rfl⟩⟩
  d_is_letter := ⟨f_is_letter, _, _, _, _, _, _, _, _, _, _, PySem.W.mg_of X G za_is_letter, zl_is_letter, zc_is_letter, zk_is_letter, .inl ⟨rfl, rfl⟩⟩
  d_is_put := ⟨f_is_put, _, _, _, _, _, _, _, _, _, _, PySem.W.mg_of X G za_is_put, zl_is_put, zc_is_put, zk_is_put, .inl ⟨rfl, rfl⟩⟩
  d_is_number := ⟨f_is_number, _, _, _, _, _, _, _, _, _, _, PySem.W.mg_of X G za_is_number, zl_is_number, zc_is_number, zk_is_number, .inl ⟨rfl, rfl⟩⟩
  d_is_numbered := ⟨f_is_numbered, _, _, _, _, _, _, _, _, _, _, PySem.W.mg_of X G za_is_numbered, zl_is_numbered, zc_is_numbered, zk_is_numbered, .inl ⟨rfl, rfl⟩⟩
  d_is_bend := ⟨f_is_bend, _, _, _, _, _, _, _, _, _, _, PySem.W.mg_of X G za_is_bend, zl_is_bend, zc_is_bend, zk_is_bend, .inl ⟨rfl, rfl⟩⟩
  d_is_forge := ⟨f_is_forge, _, _, _, _, _, _, _, _, _, _, PySem.W.mg_of X G za_is_forge, zl_is_forge, zc_is_forge, zk_is_forge, .inl ⟨rfl, rfl⟩⟩
  d_is_again := ⟨f_is_again, _, _, _, _, _, _, _, _, _, _, PySem.W.mg_of X G za_is_again, zl_is_again, zc_is_again, zk_is_again, .inl ⟨rfl, rfl⟩⟩
  d_is_move := ⟨f_is_move, _, _, _, _, _, _, _, _, _, _, PySem.W.mg_of X G za_is_move, zl_is_move, zc_is_move, zk_is_move, .inl ⟨rfl, rfl⟩⟩
  d_is_event := ⟨f_is_event, _, _, _, _, _, _, _, _, _, _, PySem.W.mg_of X G za_is_event, zl_is_event, zc_is_event, zk_is_event, .inl ⟨rfl, rfl⟩⟩
  d_need_script := ⟨f_need_script, _, _, _, _, _, _, _, _, _, _, PySem.W.mg_of X G za_need_script, zl_need_script, zc_need_script, zk_need_script, .inl ⟨rfl, rfl⟩⟩
  d_script_of := ⟨f_script_of, _, _, _, _, _, _, _, _, _, _, PySem.W.mg_of X G za_script_of, zl_script_of, zc_script_of, zk_script_of, .inl ⟨rfl, rfl⟩⟩
  d__law_heap := ⟨f__law_heap, _, _, _, _, _, _, _, _, _, _, PySem.W.mg_of X G za__law_heap, zl__law_heap, zc__law_heap, zk__law_heap, .inl ⟨rfl, rfl⟩⟩
  d__law_draw := ⟨f__law_draw, _, _, _, _, _, _, _, _, _, _, PySem.W.mg_of X G za__law_draw, zl__law_draw, zc__law_draw, zk__law_draw, .inl ⟨rfl, rfl⟩⟩
  d__law_pick := ⟨f__law_pick, _, _, _, _, _, _, _, _, _, _, PySem.W.mg_of X G za__law_pick, zl__law_pick, zc__law_pick, zk__law_pick, .inl ⟨rfl, rfl⟩⟩
  d__law_octets := ⟨f__law_octets, _, _, _, _, _, _, _, _, _, _, PySem.W.mg_of X G za__law_octets, zl__law_octets, zc__law_octets, zk__law_octets, .inl ⟨rfl, rfl⟩⟩
  d__law_letter := ⟨f__law_letter, _, _, _, _, _, _, _, _, _, _, PySem.W.mg_of X G za__law_letter, zl__law_letter, zc__law_letter, zk__law_letter, .inl ⟨rfl, rfl⟩⟩
  d__law_event := ⟨f__law_event, _, _, _, _, _, _, _, _, _, _, PySem.W.mg_of X G za__law_event, zl__law_event, zc__law_event, zk__law_event, .inl ⟨rfl, rfl⟩⟩
  d__law_heard := ⟨f__law_heard, _, _, _, _, _, _, _, _, _, _, PySem.W.mg_of X G za__law_heard, zl__law_heard, zc__law_heard, zk__law_heard, .inl ⟨rfl, rfl⟩⟩
  d__law_number := ⟨f__law_number, _, _, _, _, _, _, _, _, _, _, PySem.W.mg_of X G za__law_number, zl__law_number, zc__law_number, zk__law_number, .inl ⟨rfl, rfl⟩⟩
  d__law_is_octets := ⟨f__law_is_octets, _, _, _, _, _, _, _, _, _, _, PySem.W.mg_of X G za__law_is_octets, zl__law_is_octets, zc__law_is_octets, zk__law_is_octets, .inl ⟨rfl, rfl⟩⟩
  d__law_is_letter := ⟨f__law_is_letter, _, _, _, _, _, _, _, _, _, _, PySem.W.mg_of X G za__law_is_letter, zl__law_is_letter, zc__law_is_letter, zk__law_is_letter, .inl ⟨rfl, rfl⟩⟩
  d__law_is_event := ⟨f__law_is_event, _, _, _, _, _, _, _, _, _, _, PySem.W.mg_of X G za__law_is_event, zl__law_is_event, zc__law_is_event, zk__law_is_event, .inl ⟨rfl, rfl⟩⟩
  d__law_due := ⟨f__law_due, _, _, _, _, _, _, _, _, _, _, PySem.W.mg_of X G za__law_due, zl__law_due, zc__law_due, zk__law_due, .inl ⟨rfl, rfl⟩⟩
  d__law_spoilt := ⟨f__law_spoilt, _, _, _, _, _, _, _, _, _, _, PySem.W.mg_of X G za__law_spoilt, zl__law_spoilt, zc__law_spoilt, zk__law_spoilt, .inl ⟨rfl, rfl⟩⟩
  d_law := ⟨f_law, _, _, _, _, _, _, _, _, _, _, PySem.W.mg_of X G za_law, zl_law, zc_law, zk_law, .inl ⟨rfl, rfl⟩⟩
  x_InvalidLetter := ⟨c_InvalidLetter, t_InvalidLetter, i_InvalidLetter, k_InvalidLetter, { gC := PySem.W.mg_of X G zx_InvalidLetter, kC := xk_InvalidLetter, cls := ⟨_, _, _, _, _, _, _, _, _, _, _, _, _, _, xc_InvalidLetter⟩, sa := xs_InvalidLetter, noN := xn_InvalidLetter, iC := xi_InvalidLetter, tF := xt_InvalidLetter, sI := along_of xl_InvalidLetter xm_InvalidLetter xa_InvalidLetter, no3 := zno3, exC := xe_InvalidLetter, tyC := xy_InvalidLetter, fn := ⟨_, _, _, _, _, _, _, _, _, _, _, _, _, _, _, _, _, _, _, _, _, _, _, _, _, _, _, xf_InvalidLetter, xd_InvalidLetter, xv_InvalidLetter, xw_InvalidLetter, xg_InvalidLetter, rfl⟩, cell := ⟨_, _, _, xh_InvalidLetter⟩, top := by decide +kernel, sup := PySem.W.mg_none_of X G zsup, pnc := by simp }⟩
  x_InvalidScript := ⟨c_InvalidScript, t_InvalidScript, i_InvalidScript, k_InvalidScript, { gC := PySem.W.mg_of X G zx_InvalidScript, kC := xk_InvalidScript, cls := ⟨_, _, _, _, _, _, _, _, _, _, _, _, _, _, xc_InvalidScript⟩, sa := xs_InvalidScript, noN := xn_InvalidScript, iC := xi_InvalidScript, tF := xt_InvalidScript, sI := along_of xl_InvalidScript xm_InvalidScript xa_InvalidScript, no3 := zno3, exC := xe_InvalidScript, tyC := xy_InvalidScript, fn := ⟨_, _, _, _, _, _, _, _, _, _, _, _, _, _, _, _, _, _, _, _, _, _, _, _, _, _, _, xf_InvalidScript, xd_InvalidScript, xv_InvalidScript, xw_InvalidScript, xg_InvalidScript, rfl⟩, cell := ⟨_, _, _, xh_InvalidScript⟩, top := by decide +kernel, sup := PySem.W.mg_none_of X G zsup, pnc := by simp }⟩
  c_InvalidLetter := ⟨c_InvalidLetter, PySem.W.mg_of X G zx_InvalidLetter⟩
  c_InvalidScript := ⟨c_InvalidScript, PySem.W.mg_of X G zx_InvalidScript⟩
  c_TunnelError := ⟨c_TunnelError, PySem.W.mg_of X G zx_TunnelError⟩
  dic := gdics_of (all_cons (gdic_of (PySem.W.mg_of X G zg_LOOKS) zd_LOOKS (all_cons ⟨_, PySem.W.mg_of X G za_is_put, zv_LOOKS_0⟩ (all_cons ⟨_, PySem.W.mg_of X G za_is_numbered, zv_LOOKS_1⟩ (all_cons ⟨_, PySem.W.mg_of X G za_is_bend, zv_LOOKS_2⟩ (all_cons ⟨_, PySem.W.mg_of X G za_is_forge, zv_LOOKS_3⟩ (all_cons ⟨_, PySem.W.mg_of X G za_is_again, zv_LOOKS_4⟩ (all_cons ⟨_, PySem.W.mg_of X G za_is_numbered, zv_LOOKS_5⟩ (all_cons ⟨_, PySem.W.mg_of X G za_is_move, zv_LOOKS_6⟩ (all_cons ⟨_, PySem.W.mg_of X G za_is_numbered, zv_LOOKS_7⟩ all_nil))))))))) all_nil)
  exm := exmOk_of (all_cons (fun C D h1 h2 => by cases (PySem.W.mg_of X G zx_InvalidLetter).symm.trans h1; cases (PySem.W.mg_of X G zx_InvalidLetter).symm.trans h2; exact exm_of vs_InvalidLetter vc_InvalidLetter vt_InvalidLetter ze_0) (all_cons (fun C D h1 h2 => by cases (PySem.W.mg_of X G zx_InvalidLetter).symm.trans h1; cases (PySem.W.mg_of X G zx_InvalidScript).symm.trans h2; exact exm_of vs_InvalidScript vc_InvalidScript vt_InvalidScript ze_1) (all_cons (fun C D h1 h2 => by cases (PySem.W.mg_of X G zx_InvalidScript).symm.trans h1; cases (PySem.W.mg_of X G zx_InvalidLetter).symm.trans h2; exact exm_of vs_InvalidLetter vc_InvalidLetter vt_InvalidLetter ze_2) (all_cons (fun C D h1 h2 => by cases (PySem.W.mg_of X G zx_InvalidScript).symm.trans h1; cases (PySem.W.mg_of X G zx_InvalidScript).symm.trans h2; exact exm_of vs_InvalidScript vc_InvalidScript vt_InvalidScript ze_3) all_nil))))
  xf := xfOk_of (all_cons (fun C h1 => by cases (PySem.W.mg_of X G zx_InvalidScript).symm.trans h1; exact ⟨⟨hg_InvalidScript, hk_InvalidScript, vs_InvalidScript, hd_InvalidScript⟩, zq_0⟩) all_nil)
  isx := isxOk_of (all_cons (fun C D h1 h2 => by cases (PySem.W.mg_of X G zx_InvalidScript).symm.trans h1; cases (PySem.W.mg_of X G zx_TunnelError).symm.trans h2; exact ⟨⟨vc_InvalidScript, hg_InvalidScript, hk_InvalidScript, vs_InvalidScript, ha_InvalidScript, hn_, ht_, hm_InvalidScript⟩, kit_ofC vc_TunnelError vt_TunnelError zo_0 (fun _ => rfl)⟩) all_nil)
theorem head_of {w : World} {K : PySem.W.Frag} {h : Heap} {mg : Str → Option Value} {fa : Addr} (hfa : mg ("law" : Str) = some (.ref fa)) (T : Txt PySem.Challenge.pw_putinonce_k73_any_values_as_scripts w K mg) :
    ∃ fd : FuncData, (∀ (s : Shared) (u : Value), BindsTo s fd ⟨[u], []⟩ [(("script" : Str), u)]) ∧ ∀ base : Heap, K.In base → base.Ns mainGlobals mg → FnM PySem.Challenge.pw_putinonce_k73_any_values_as_scripts w K mg base 11 fa fd [("script" : Str)] m_law := by
  obtain ⟨f, oc, od, dV, kV, doc, pm, an, cdv, ct, osl, h1, h2, h3, h4, h5⟩ := T.d_law.ex
  cases h1.symm.trans hfa
  rcases h5 with ⟨_, rfl⟩ | ⟨z, _⟩
  · exact ⟨_, fun s u => .of_eq rfl, fun base _ _ => fn_sim h2 h3 sc_law (sm_law T)⟩
  · exact absurd rfl z
end Lw
open PySem PySem.W PyProof.Rows
set_option maxRecDepth 100000 in
set_option maxHeartbeats 0 in
theorem PySem.Challenge.cw_putinonce_k73_any_values_as_scripts_holds : PySem.Challenge.rw_putinonce_k73_any_values_as_scripts.Holds := by
  w_on; o_law; k_head; (case hw => w_witness2)
  k_fill
  refine Sm.sm_walk (l := PySem.Challenge.rw_putinonce_k73_any_values_as_scripts) (n := 63) (k := 11) (x := ("script" : Str)) (m := Lw.m_law) rfl (by decide) rfl ⟨rfl, by decide, by decide⟩ (fun w h Y => PySem.W.kIn_of Y) ?F Lw.plain_law
  case F =>
    intro w mg fa h KX G hmg
    refine Lw.head_of (h := h) hmg ?T
    refine' Lw.txt_mk KX G ?zn_abs ?zn_all ?zn_bool ?zn_enumerate ?zn_int ?zn_isinstance ?zn_len ?zn_list ?zn_max ?zn_range ?zn_repr ?zn_str ?zn_tuple ?zg_ADDRESSES ?zg_MOST ?za_is_text ?zl_is_text ?zc_is_text ?zk_is_text ?za_is_integer ?zl_is_integer ?zc_is_integer ?zk_is_integer ?za_is_below ?zl_is_below ?zc_is_below ?zk_is_below ?za_is_tuple_of ?zl_is_tuple_of ?zc_is_tuple_of ?zk_is_tuple_of ?za_wrong_place ?zl_wrong_place ?zc_wrong_place ?zk_wrong_place ?za_is_octets ?zl_is_octets ?zc_is_octets ?zk_is_octets ?za_need_letter ?zl_need_letter ?zc_need_letter ?zk_need_letter ?za_is_letter ?zl_is_letter ?zc_is_letter ?zk_is_letter ?za_is_put ?zl_is_put ?zc_is_put ?zk_is_put ?za_is_number ?zl_is_number ?zc_is_number ?zk_is_number ?za_is_numbered ?zl_is_numbered ?zc_is_numbered ?zk_is_numbered ?za_is_bend ?zl_is_bend ?zc_is_bend ?zk_is_bend ?za_is_forge ?zl_is_forge ?zc_is_forge ?zk_is_forge ?za_is_again ?zl_is_again ?zc_is_again ?zk_is_again ?za_is_move ?zl_is_move ?zc_is_move ?zk_is_move ?za_is_event ?zl_is_event ?zc_is_event ?zk_is_event ?za_need_script ?zl_need_script ?zc_need_script ?zk_need_script ?za_script_of ?zl_script_of ?zc_script_of ?zk_script_of ?za__law_heap ?zl__law_heap ?zc__law_heap ?zk__law_heap ?za__law_draw ?zl__law_draw ?zc__law_draw ?zk__law_draw ?za__law_pick ?zl__law_pick ?zc__law_pick ?zk__law_pick ?za__law_octets ?zl__law_octets ?zc__law_octets ?zk__law_octets ?za__law_letter ?zl__law_letter ?zc__law_letter ?zk__law_letter ?za__law_event ?zl__law_event ?zc__law_event ?zk__law_event ?za__law_heard ?zl__law_heard ?zc__law_heard ?zk__law_heard ?za__law_number ?zl__law_number ?zc__law_number ?zk__law_number ?za__law_is_octets ?zl__law_is_octets ?zc__law_is_octets ?zk__law_is_octets ?za__law_is_letter ?zl__law_is_letter ?zc__law_is_letter ?zk__law_is_letter ?za__law_is_event ?zl__law_is_event ?zc__law_is_event ?zk__law_is_event ?za__law_due ?zl__law_due ?zc__law_due ?zk__law_due ?za__law_spoilt ?zl__law_spoilt ?zc__law_spoilt ?zk__law_spoilt ?za_law ?zl_law ?zc_law ?zk_law ?zsup ?zno3 ?zx_InvalidLetter ?zx_InvalidScript ?zx_TunnelError ?xk_InvalidLetter ?xc_InvalidLetter ?xs_InvalidLetter ?xn_InvalidLetter ?xi_InvalidLetter ?xt_InvalidLetter ?xl_InvalidLetter ?xm_InvalidLetter ?xa_InvalidLetter ?xe_InvalidLetter ?xy_InvalidLetter ?xf_InvalidLetter ?xd_InvalidLetter ?xv_InvalidLetter ?xw_InvalidLetter ?xg_InvalidLetter ?xh_InvalidLetter ?xk_InvalidScript ?xc_InvalidScript ?xs_InvalidScript ?xn_InvalidScript ?xi_InvalidScript ?xt_InvalidScript ?xl_InvalidScript ?xm_InvalidScript ?xa_InvalidScript ?xe_InvalidScript ?xy_InvalidScript ?xf_InvalidScript ?xd_InvalidScript ?xv_InvalidScript ?xw_InvalidScript ?xg_InvalidScript ?xh_InvalidScript ?vs_InvalidLetter ?vc_InvalidLetter ?vt_InvalidLetter ?vs_InvalidScript ?vc_InvalidScript ?vt_InvalidScript ?vs_TunnelError ?vc_TunnelError ?vt_TunnelError ?hg_InvalidScript ?hk_InvalidScript ?hd_InvalidScript ?ha_InvalidScript ?hm_InvalidScript ?hn_ ?ht_ ?zg_LOOKS ?zd_LOOKS ?zv_LOOKS_7 ?zv_LOOKS_6 ?zv_LOOKS_5 ?zv_LOOKS_4 ?zv_LOOKS_3 ?zv_LOOKS_2 ?zv_LOOKS_1 ?zv_LOOKS_0 ?ze_0 ?ze_1 ?ze_2 ?ze_3 ?zq_0 ?zo_0
    (case zn_abs => k_is)
    (case zn_all => k_is)
    (case zn_bool => k_is)
    (case zn_enumerate => k_is)
    (case zn_int => k_is)
    (case zn_isinstance => k_is)
    (case zn_len => k_is)
    (case zn_list => k_is)
    (case zn_max => k_is)
    (case zn_range => k_is)
    (case zn_repr => k_is)
    (case zn_str => k_is)
    (case zn_tuple => k_is)
    (case zg_ADDRESSES => k_is)
    (case zg_MOST => k_is)
    (case za_is_text => k_is)
    (case zl_is_text => k_is)
    (case zc_is_text => k_is)
    (case zk_is_text => k_is)
    (case za_is_integer => k_is)
    (case zl_is_integer => k_is)
    (case zc_is_integer => k_is)
    (case zk_is_integer => k_is)
    (case za_is_below => k_is)
    (case zl_is_below => k_is)
    (case zc_is_below => k_is)
    (case zk_is_below => k_is)
    (case za_is_tuple_of => k_is)
    (case zl_is_tuple_of => k_is)
    (case zc_is_tuple_of => k_is)
    (case zk_is_tuple_of => k_is)
    (case za_wrong_place => k_is)
    (case zl_wrong_place => k_is)
    (case zc_wrong_place => k_is)
    (case zk_wrong_place => k_is)
    (case za_is_octets => k_is)
    (case zl_is_octets => k_is)
    (case zc_is_octets => k_is)
    (case zk_is_octets => k_is)
    (case za_need_letter => k_is)
    (case zl_need_letter => k_is)
    (case zc_need_letter => k_is)
    (case zk_need_letter => k_is)
    (case za_is_letter => k_is)
    (case zl_is_letter => k_is)
    (case zc_is_letter => k_is)
    (case zk_is_letter => k_is)
    (case za_is_put => k_is)
    (case zl_is_put => k_is)
    (case zc_is_put => k_is)
    (case zk_is_put => k_is)
    (case za_is_number => k_is)
    (case zl_is_number => k_is)
    (case zc_is_number => k_is)
    (case zk_is_number => k_is)
    (case za_is_numbered => k_is)
    (case zl_is_numbered => k_is)
    (case zc_is_numbered => k_is)
    (case zk_is_numbered => k_is)
    (case za_is_bend => k_is)
    (case zl_is_bend => k_is)
    (case zc_is_bend => k_is)
    (case zk_is_bend => k_is)
    (case za_is_forge => k_is)
    (case zl_is_forge => k_is)
    (case zc_is_forge => k_is)
    (case zk_is_forge => k_is)
    (case za_is_again => k_is)
    (case zl_is_again => k_is)
    (case zc_is_again => k_is)
    (case zk_is_again => k_is)
    (case za_is_move => k_is)
    (case zl_is_move => k_is)
    (case zc_is_move => k_is)
    (case zk_is_move => k_is)
    (case za_is_event => k_is)
    (case zl_is_event => k_is)
    (case zc_is_event => k_is)
    (case zk_is_event => k_is)
    (case za_need_script => k_is)
    (case zl_need_script => k_is)
    (case zc_need_script => k_is)
    (case zk_need_script => k_is)
    (case za_script_of => k_is)
    (case zl_script_of => k_is)
    (case zc_script_of => k_is)
    (case zk_script_of => k_is)
    (case za__law_heap => k_is)
    (case zl__law_heap => k_is)
    (case zc__law_heap => k_is)
    (case zk__law_heap => k_is)
    (case za__law_draw => k_is)
    (case zl__law_draw => k_is)
    (case zc__law_draw => k_is)
    (case zk__law_draw => k_is)
    (case za__law_pick => k_is)
    (case zl__law_pick => k_is)
    (case zc__law_pick => k_is)
    (case zk__law_pick => k_is)
    (case za__law_octets => k_is)
    (case zl__law_octets => k_is)
    (case zc__law_octets => k_is)
    (case zk__law_octets => k_is)
    (case za__law_letter => k_is)
    (case zl__law_letter => k_is)
    (case zc__law_letter => k_is)
    (case zk__law_letter => k_is)
    (case za__law_event => k_is)
    (case zl__law_event => k_is)
    (case zc__law_event => k_is)
    (case zk__law_event => k_is)
    (case za__law_heard => k_is)
    (case zl__law_heard => k_is)
    (case zc__law_heard => k_is)
    (case zk__law_heard => k_is)
    (case za__law_number => k_is)
    (case zl__law_number => k_is)
    (case zc__law_number => k_is)
    (case zk__law_number => k_is)
    (case za__law_is_octets => k_is)
    (case zl__law_is_octets => k_is)
    (case zc__law_is_octets => k_is)
    (case zk__law_is_octets => k_is)
    (case za__law_is_letter => k_is)
    (case zl__law_is_letter => k_is)
    (case zc__law_is_letter => k_is)
    (case zk__law_is_letter => k_is)
    (case za__law_is_event => k_is)
    (case zl__law_is_event => k_is)
    (case zc__law_is_event => k_is)
    (case zk__law_is_event => k_is)
    (case za__law_due => k_is)
    (case zl__law_due => k_is)
    (case zc__law_due => k_is)
    (case zk__law_due => k_is)
    (case za__law_spoilt => k_is)
    (case zl__law_spoilt => k_is)
    (case zc__law_spoilt => k_is)
    (case zk__law_spoilt => k_is)
    (case za_law => k_is)
    (case zl_law => k_is)
    (case zc_law => k_is)
    (case zk_law => k_is)
    (case zsup => k_is)
    (case zno3 => k_is)
    (case zx_InvalidLetter => k_is)
    (case zx_InvalidScript => k_is)
    (case zx_TunnelError => k_is)
    (case xk_InvalidLetter => k_is)
    (case xc_InvalidLetter => k_is)
    (case xs_InvalidLetter => k_is)
    (case xn_InvalidLetter => k_is)
    (case xi_InvalidLetter => k_is)
    (case xt_InvalidLetter => k_is)
    (case xl_InvalidLetter => k_is)
    (case xm_InvalidLetter => rfl)
    (case xa_InvalidLetter => k_is)
    (case xe_InvalidLetter => k_is)
    (case xy_InvalidLetter => k_is)
    (case xf_InvalidLetter => k_is)
    (case xd_InvalidLetter => k_is)
    (case xv_InvalidLetter => k_is)
    (case xw_InvalidLetter => first | rfl | k_is)
    (case xg_InvalidLetter => first | rfl | decide +kernel)
    (case xh_InvalidLetter => k_is)
    (case xk_InvalidScript => k_is)
    (case xc_InvalidScript => k_is)
    (case xs_InvalidScript => k_is)
    (case xn_InvalidScript => k_is)
    (case xi_InvalidScript => k_is)
    (case xt_InvalidScript => k_is)
    (case xl_InvalidScript => k_is)
    (case xm_InvalidScript => rfl)
    (case xa_InvalidScript => k_is)
    (case xe_InvalidScript => k_is)
    (case xy_InvalidScript => k_is)
    (case xf_InvalidScript => k_is)
    (case xd_InvalidScript => k_is)
    (case xv_InvalidScript => k_is)
    (case xw_InvalidScript => first | rfl | k_is)
    (case xg_InvalidScript => first | rfl | decide +kernel)
    (case xh_InvalidScript => k_is)
    (case vs_InvalidLetter => k_is)
    (case vc_InvalidLetter => k_is)
    (case vt_InvalidLetter => k_is)
    (case vs_InvalidScript => k_is)
    (case vc_InvalidScript => k_is)
    (case vt_InvalidScript => k_is)
    (case vs_TunnelError => k_is)
    (case vc_TunnelError => k_is)
    (case vt_TunnelError => k_is)
    (case hg_InvalidScript => k_is)
    (case hk_InvalidScript => k_is)
    (case hd_InvalidScript => k_is)
    (case ha_InvalidScript => k_is)
    (case hm_InvalidScript => k_is)
    (case hn_ => k_is)
    (case ht_ => k_is)
    (case zg_LOOKS => k_is)
    (case zd_LOOKS => first | rfl | k_is)
    (case zv_LOOKS_7 => k_is)
    (case zv_LOOKS_6 => k_is)
    (case zv_LOOKS_5 => k_is)
    (case zv_LOOKS_4 => k_is)
    (case zv_LOOKS_3 => k_is)
    (case zv_LOOKS_2 => k_is)
    (case zv_LOOKS_1 => k_is)
    (case zv_LOOKS_0 => k_is)
    (case ze_0 => k_is)
    (case ze_1 => k_is)
    (case ze_2 => k_is)
    (case ze_3 => k_is)
    (case zq_0 => k_is)
    (case zo_0 => k_is)
#print axioms PySem.Challenge.cw_putinonce_k73_any_values_as_scripts_holds

