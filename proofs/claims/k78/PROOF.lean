import PyProof.Rows.All
import Wide.All
import OpenK.AllK
import Wide.FinOn
import HandS.ForMost
import HandS.ForExc
import HandS.Defaults
import HandS.IsInst
import HandS.TupAny
import HandS.Flow
import HandS.Wide
import HandS.Deep
import HandS.WideBits
import HandS.TupLe
import HandS.TryMany
import KE.GoesEnum
import HandS.Zip
import HandS.ExcField
import HandS.ExcIs
import KE.KExcIs
import HandS.NoneIn
import HandS.Style
import HandS.RaiseMore
import PyProof.ReprRoads
import HandS.TupMul
import HandS.BoundList
import HandS.ExcSuper
import HandS.ExcOwn
import KE.KSuper
import HandS.Ends
import HandS.EndBits
import HandS.Text
import PyProof.ReprBulk
import PyProof.Rows.StrJoinMade
import Open.SpecLaws
import KE.OsGo
import PySem.Challenge.RW_putinonce_k78_datagrams_and_payloads
set_option Elab.async false
set_option linter.all false
set_option maxRecDepth 100000
set_option maxHeartbeats 1000000
/-! The Sim layer, part 0: values by value, a store of mutable objects, and how they stand in the abstract heap. -/
namespace Sm
open PySem L2

/-- a value by value; loc l: the l-th object of the store -/
inductive Val where
  | non | bl (b : Bool) | int (i : Int) | str (s : Str) | tup (xs : List Val) | kt (xs : List Val) | loc (l : Nat) | fn (x : Str) | cl (x : Str) | ty (n : String) | scr (ns : List Int) | exc (x : Str) (fs : List (Str × Val))
instance : Inhabited Val := ⟨.non⟩

/-- an object of the store -/
inductive Ob where
  | lst (xs : List Val) | dK (kvs : List (Key × Val)) | dT (kvs : List (List Key × Val)) | ins (c : Str) (al : List Str) (fs : List (Str × Val))
instance : Inhabited Ob := ⟨.lst []⟩
abbrev Sto := List Ob
/-- an exception: the name of its class, its fields -/
abbrev Xn := Str × List (Str × Val)
abbrev Env := List (Option Val)
/-- what an expression comes to -/
inductive R (α : Type) where
  | ok (a : α) (st : Sto) | err (x : Xn) (st : Sto) | stuck
/-- what a statement comes to -/
inductive SR where
  | nx (e : Env) (st : Sto) | rt (v : Val) (st : Sto) | bk (e : Env) (st : Sto) | ct (e : Env) (st : Sto) | er (x : Xn) (e : Env) (st : Sto) | stuck
abbrev Ex := Env → Sto → R Val
abbrev Tx := Env → Sto → R Bool
abbrev Ax := Env → Sto → R (List Val)
abbrev Sx := Env → Sto → SR
/-- what a def comes to -/
abbrev Fx := List Val → Sto → R Val

def R.bind {α β : Type} (r : R α) (f : α → Sto → R β) : R β := match r with
  | .ok a st => f a st
  | .err x st => .err x st
  | .stuck => .stuck
@[simp] theorem R.bind_ok {α β : Type} (a : α) (st : Sto) (f : α → Sto → R β) : (R.ok a st).bind f = f a st := rfl
@[simp] theorem R.bind_err {α β : Type} (x : Xn) (st : Sto) (f : α → Sto → R β) : (R.err x st).bind f = .err x st := rfl
@[simp] theorem R.bind_stuck {α β : Type} (f : α → Sto → R β) : (R.stuck : R α).bind f = .stuck := rfl
/-- in a statement -/
def R.to {α : Type} (r : R α) (e : Env) (f : α → Sto → SR) : SR := match r with
  | .ok a st => f a st
  | .err x st => .er x e st
  | .stuck => .stuck
@[simp] theorem R.to_ok {α : Type} (a : α) (st : Sto) (e : Env) (f : α → Sto → SR) : (R.ok a st).to e f = f a st := rfl
@[simp] theorem R.to_err {α : Type} (x : Xn) (st : Sto) (e : Env) (f : α → Sto → SR) : (R.err x st : R α).to e f = .er x e st := rfl
@[simp] theorem R.to_stuck {α : Type} (e : Env) (f : α → Sto → SR) : (R.stuck : R α).to e f = .stuck := rfl

/-! ### how they stand -/
section
variable (K : PySem.W.Frag) (mg : Str → Option Value)
/-- a list that is never written: frozen, or of the written part -/
def SqF (H : Hp) (a : Addr) (xs : List V) : Prop := (∃ o, H a = some (.frz o (.lst xs))) ∨
    ∃ (o : Obj) (its : Array Value) (n : Nat), K.lookup a = some o ∧ o.cls = .type "list" ∧ o.dict = none ∧ o.data = .seq its n ∧ its.size ≤ sizeLine ∧ Vals xs its.toList
/-- a tuple of the written part -/
def SqK (a : Addr) (xs : List V) : Prop := ∃ (o : Obj) (its : Array Value) (n : Nat), K.lookup a = some o ∧ o.cls = .type "tuple" ∧ o.data = .seq its n ∧ its.size ≤ sizeLine ∧ Vals xs its.toList
mutual
def RV (ρ : List Addr) (H : Hp) : Val → V → Prop
  | .non, v => v = .non
  | .bl b, v => v = .bl b
  | .int i, v => v = .int i
  | .str s, v => v = .str s
  | .tup xs, v => ∃ a vs, v = .ref a ∧ H a = some (.tup vs) ∧ RVs ρ H xs vs
  | .kt xs, v => ∃ a vs, v = .ref a ∧ SqK K a vs ∧ RVs ρ H xs vs
  | .loc l, v => ∃ a, v = .ref a ∧ ρ[l]? = some a
  | .fn x, v => ∃ a, v = .ref a ∧ mg x = some (.ref a)
  | .cl x, v => ∃ a, v = .ref a ∧ mg x = some (.ref a)
  | .ty n, v => v = .ty n
  | .scr ns, v => ∃ a, v = .ref a ∧ SqF K H a (ns.map V.int)
  | .exc _ _, _ => False
def RVs (ρ : List Addr) (H : Hp) : List Val → List V → Prop
  | [], vs => vs = []
  | x :: xs, vs => ∃ v r, vs = v :: r ∧ RV ρ H x v ∧ RVs ρ H xs r
end
/-- pairs of a key and a value -/
def RPs {κ : Type} (ρ : List Addr) (H : Hp) : List (κ × Val) → List (κ × V) → Prop
  | [], ps => ps = []
  | x :: xs, ps => ∃ v r, ps = (x.1, v) :: r ∧ RV K mg ρ H x.2 v ∧ RPs ρ H xs r
/-- an object of the store at a -/
def RO (ρ : List Addr) (H : Hp) : Ob → Addr → Prop
  | .lst xs, a => ∃ vs, H a = some (.lst vs) ∧ RVs K mg ρ H xs vs
  | .dK kvs, a => ∃ ps, H a = some (.dK ps) ∧ RPs K mg ρ H kvs ps
  | .dT kvs, a => ∃ ps, H a = some (.dT ps) ∧ RPs K mg ρ H kvs ps
  | .ins c al fs, a => ∃ C dx ps, mg c = some (.ref C) ∧ Cls K C ∧ (∀ f ∈ al, NoAttr K C f) ∧ H a = some (.ins C dx ps) ∧ RPs K mg ρ H fs ps ∧ ∀ p ∈ fs, p.1 ∈ al
/-- the store -/
structure RS (ρ : List Addr) (H : Hp) (st : Sto) : Prop where
  len : ρ.length = st.length
  nd : ρ.Nodup
  ob : ∀ (l : Nat) (a : Addr) (o : Ob), ρ[l]? = some a → st[l]? = some o → RO K mg ρ H o a
/-- what grows: new objects, what is never written stays -/
structure Ext (ρ : List Addr) (H : Hp) (ρ' : List Addr) (H' : Hp) : Prop where
  pre : ρ <+: ρ'
  tups : ∀ a xs, H a = some (.tup xs) → H' a = some (.tup xs)
  frzs : ∀ a o u, H a = some (.frz o u) → H' a = some (.frz o u)
  xds : ∀ a ps, H a = some (.xd ps) → H' a = some (.xd ps)
/-- what may be written -/
def Wr (u : HO) : Prop := (∀ xs, u ≠ .tup xs) ∧ (∀ o v, u ≠ .frz o v) ∧ ∀ ps, u ≠ .xd ps
/-- an exception that has been raised: its class, its own dict -/
def RX (ρ : List Addr) (H : Hp) (x : Xn) (cls : Value) (d : Option Addr) : Prop :=
  ∃ C, mg x.1 = some (.ref C) ∧ cls = .ref C ∧ ((x.2 = [] ∧ d = none) ∨ ∃ dd ps, d = some dd ∧ H dd = some (.xd ps) ∧ RPs K mg ρ H x.2 ps)
end

section
variable {K : PySem.W.Frag} {mg : Str → Option Value} {ρ ρ' ρ'' : List Addr} {H H' H'' : Hp} {st : Sto}
theorem Ext.refl : Ext ρ H ρ H := ⟨List.prefix_refl _, fun _ _ h => h, fun _ _ _ h => h, fun _ _ h => h⟩
theorem Ext.trans (a : Ext ρ H ρ' H') (b : Ext ρ' H' ρ'' H'') : Ext ρ H ρ'' H'' :=
  ⟨a.pre.trans b.pre, fun c xs h => b.tups c xs (a.tups c xs h), fun c o u h => b.frzs c o u (a.frzs c o u h), fun c o h => b.xds c o (a.xds c o h)⟩
theorem Ext.at (e : Ext ρ H ρ' H') {l : Nat} {a : Addr} (h : ρ[l]? = some a) : ρ'[l]? = some a := by
  obtain ⟨t, rfl⟩ := e.pre
  rw [List.getElem?_append_left (List.getElem?_eq_some_iff.mp h).1]; exact h
/-- a new thing -/
theorem Ext.new {p : Addr} {o : HO} (h : H p = none) : Ext ρ H ρ (upd H p o) :=
  ⟨List.prefix_refl _, fun a xs e => by rw [upd_ne (ne_of_none e h)]; exact e, fun a o u e => by rw [upd_ne (ne_of_none e h)]; exact e, fun a xs e => by rw [upd_ne (ne_of_none e h)]; exact e⟩
theorem Ext.snoc {p : Addr} {o : HO} (h : H p = none) : Ext ρ H (ρ ++ [p]) (upd H p o) :=
  ⟨List.prefix_append _ _, (Ext.new (ρ := ρ) h).tups, (Ext.new (ρ := ρ) h).frzs, (Ext.new (ρ := ρ) h).xds⟩
/-- a written thing -/
theorem Ext.set {p : Addr} {o u : HO} (h : H p = some u) (w : Wr u) : Ext ρ H ρ (upd H p o) :=
  ⟨List.prefix_refl _, fun a xs e => by
    rw [upd_ne (by rintro rfl; rw [h] at e; exact w.1 _ (Option.some.inj e))]; exact e, fun a o v e => by
    rw [upd_ne (by rintro rfl; rw [h] at e; exact w.2.1 _ _ (Option.some.inj e))]; exact e, fun a xs e => by
    rw [upd_ne (by rintro rfl; rw [h] at e; exact w.2.2 _ (Option.some.inj e))]; exact e⟩
theorem Ext.sqT (e : Ext ρ H ρ' H') {a : Addr} {xs : List V} (h : SqT K H a xs) : SqT K H' a xs := by
  rcases h with (h | ⟨o, h⟩) | h
  · exact .inl (.inl (e.tups _ _ h))
  · exact .inl (.inr ⟨o, e.frzs _ _ _ h⟩)
  · exact .inr h
theorem Ext.sqF (e : Ext ρ H ρ' H') {a : Addr} {xs : List V} (h : SqF K H a xs) : SqF K H' a xs := by
  rcases h with ⟨o, h⟩ | h
  · exact .inl ⟨o, e.frzs _ _ _ h⟩
  · exact .inr h
theorem SqF.sq {a : Addr} {xs : List V} (h : SqF K H a xs) : SqL K H a xs := by
  rcases h with ⟨o, h⟩ | h
  · exact .inl (.inr ⟨o, h⟩)
  · exact .inr h
mutual
theorem RV.mono (e : Ext ρ H ρ' H') : ∀ {x : Val} {v : V}, RV K mg ρ H x v → RV K mg ρ' H' x v
  | .non, _, h => by simpa [RV] using h
  | .bl _, _, h => by simpa [RV] using h
  | .int _, _, h => by simpa [RV] using h
  | .str _, _, h => by simpa [RV] using h
  | .tup xs, v, h => by
    rw [RV] at h ⊢
    obtain ⟨a, vs, rfl, h1, h2⟩ := h
    exact ⟨a, vs, rfl, e.tups _ _ h1, RVs.mono e h2⟩
  | .kt xs, v, h => by
    rw [RV] at h ⊢
    obtain ⟨a, vs, rfl, h1, h2⟩ := h
    exact ⟨a, vs, rfl, h1, RVs.mono e h2⟩
  | .loc l, v, h => by
    rw [RV] at h ⊢
    obtain ⟨a, rfl, h1⟩ := h
    exact ⟨a, rfl, e.at h1⟩
  | .fn _, _, h => by simpa [RV] using h
  | .cl _, _, h => by simpa [RV] using h
  | .ty _, _, h => by simpa [RV] using h
  | .scr _, _, h => by
    rw [RV] at h ⊢
    obtain ⟨a, rfl, h1⟩ := h
    exact ⟨a, rfl, e.sqF h1⟩
  | .exc _ _, _, h => by simp [RV] at h
theorem RVs.mono (e : Ext ρ H ρ' H') : ∀ {xs : List Val} {vs : List V}, RVs K mg ρ H xs vs → RVs K mg ρ' H' xs vs
  | [], _, h => by simpa [RVs] using h
  | x :: xs, vs, h => by
    rw [RVs] at h ⊢
    obtain ⟨v, r, rfl, h1, h2⟩ := h
    exact ⟨v, r, rfl, RV.mono e h1, RVs.mono e h2⟩
end
theorem RPs.mono {κ : Type} (e : Ext ρ H ρ' H') : ∀ {xs : List (κ × Val)} {vs : List (κ × V)}, RPs K mg ρ H xs vs → RPs K mg ρ' H' xs vs
  | [], _, h => by simpa [RPs] using h
  | x :: xs, vs, h => by
    rw [RPs] at h ⊢
    obtain ⟨v, r, rfl, h1, h2⟩ := h
    exact ⟨v, r, rfl, RV.mono e h1, RPs.mono e h2⟩

/-! ### lists of values -/
theorem RVs.length : ∀ {xs : List Val} {vs : List V}, RVs K mg ρ H xs vs → vs.length = xs.length
  | [], _, h => by rw [RVs] at h; subst h; rfl
  | x :: xs, vs, h => by
    rw [RVs] at h
    obtain ⟨v, r, rfl, h1, h2⟩ := h
    simp [RVs.length h2]
theorem RVs.nil : RVs K mg ρ H [] [] := by rw [RVs]
theorem RVs.cons {x : Val} {v : V} {xs : List Val} {vs : List V} (h : RV K mg ρ H x v) (t : RVs K mg ρ H xs vs) : RVs K mg ρ H (x :: xs) (v :: vs) := by
  rw [RVs]; exact ⟨v, vs, rfl, h, t⟩
theorem RVs.get : ∀ {xs : List Val} {vs : List V} {i : Nat} {x : Val}, RVs K mg ρ H xs vs → xs[i]? = some x → ∃ v, vs[i]? = some v ∧ RV K mg ρ H x v
  | [], _, _, _, _, e => by simp at e
  | y :: xs, vs, i, x, h, e => by
    rw [RVs] at h
    obtain ⟨v, r, rfl, h1, h2⟩ := h
    cases i with
    | zero => simp at e; subst e; exact ⟨v, by simp, h1⟩
    | succ i => simpa using RVs.get (i := i) h2 (by simpa using e)
theorem RVs.set : ∀ {xs : List Val} {vs : List V} (i : Nat) {x : Val} {v : V}, RVs K mg ρ H xs vs → RV K mg ρ H x v → RVs K mg ρ H (xs.set i x) (vs.set i v)
  | [], vs, i, _, _, h, _ => by rw [RVs] at h; subst h; simp [RVs]
  | y :: xs, vs, i, x, v, h, hv => by
    rw [RVs] at h
    obtain ⟨w, r, rfl, h1, h2⟩ := h
    cases i with
    | zero => exact .cons hv h2
    | succ i => exact .cons h1 (RVs.set i h2 hv)
theorem RVs.append : ∀ {xs ys : List Val} {vs ws : List V}, RVs K mg ρ H xs vs → RVs K mg ρ H ys ws → RVs K mg ρ H (xs ++ ys) (vs ++ ws)
  | [], _, _, _, h, t => by rw [RVs] at h; subst h; exact t
  | x :: xs, _, _, _, h, t => by
    rw [RVs] at h
    obtain ⟨w, r, rfl, h1, h2⟩ := h
    exact .cons h1 (RVs.append h2 t)
theorem RVs.take : ∀ {xs : List Val} {vs : List V} (n : Nat), RVs K mg ρ H xs vs → RVs K mg ρ H (xs.take n) (vs.take n)
  | [], _, n, h => by rw [RVs] at h; subst h; simp [RVs]
  | x :: xs, _, 0, h => by simp [RVs]
  | x :: xs, _, n + 1, h => by
    rw [RVs] at h
    obtain ⟨w, r, rfl, h1, h2⟩ := h
    exact .cons h1 (RVs.take n h2)
theorem RVs.drop : ∀ {xs : List Val} {vs : List V} (n : Nat), RVs K mg ρ H xs vs → RVs K mg ρ H (xs.drop n) (vs.drop n)
  | [], _, n, h => by rw [RVs] at h; subst h; simp [RVs]
  | x :: xs, _, 0, h => h
  | x :: xs, _, n + 1, h => by
    rw [RVs] at h
    obtain ⟨w, r, rfl, h1, h2⟩ := h
    exact RVs.drop n h2
theorem RVs.reverse : ∀ {xs : List Val} {vs : List V}, RVs K mg ρ H xs vs → RVs K mg ρ H xs.reverse vs.reverse
  | [], _, h => by rw [RVs] at h; subst h; simp [RVs]
  | x :: xs, _, h => by
    rw [RVs] at h
    obtain ⟨w, r, rfl, h1, h2⟩ := h
    rw [List.reverse_cons, List.reverse_cons]
    exact (RVs.reverse h2).append (.cons h1 .nil)
theorem RVs.ints : ∀ {ns : List Int}, RVs K mg ρ H (ns.map Val.int) (ns.map V.int)
  | [] => .nil
  | n :: ns => .cons (by rw [RV]) RVs.ints
/-! ### pairs -/
theorem RPs.nil {κ : Type} : RPs (κ := κ) K mg ρ H [] [] := by rw [RPs]
theorem RPs.cons {κ : Type} {k : κ} {x : Val} {v : V} {xs : List (κ × Val)} {vs : List (κ × V)} (h : RV K mg ρ H x v) (t : RPs K mg ρ H xs vs) : RPs K mg ρ H ((k, x) :: xs) ((k, v) :: vs) := by
  rw [RPs]; exact ⟨v, vs, rfl, h, t⟩
theorem RPs.length {κ : Type} : ∀ {xs : List (κ × Val)} {vs : List (κ × V)}, RPs K mg ρ H xs vs → vs.length = xs.length
  | [], _, h => by rw [RPs] at h; subst h; rfl
  | x :: xs, vs, h => by
    rw [RPs] at h
    obtain ⟨v, r, rfl, h1, h2⟩ := h
    simp [RPs.length h2]
theorem RPs.lookup {κ : Type} [BEq κ] : ∀ {xs : List (κ × Val)} {vs : List (κ × V)} {k : κ} {x : Val}, RPs K mg ρ H xs vs → xs.lookup k = some x → ∃ v, vs.lookup k = some v ∧ RV K mg ρ H x v
  | [], _, _, _, _, e => by simp at e
  | (k', y) :: xs, vs, k, x, h, e => by
    rw [RPs] at h
    obtain ⟨v, r, rfl, h1, h2⟩ := h
    rw [List.lookup_cons] at e ⊢
    cases q : k == k' with
    | true => rw [q] at e; cases e; exact ⟨v, rfl, h1⟩
    | false => rw [q] at e; exact RPs.lookup h2 e
theorem RPs.lookup_none {κ : Type} [BEq κ] : ∀ {xs : List (κ × Val)} {vs : List (κ × V)} {k : κ}, RPs K mg ρ H xs vs → xs.lookup k = none → vs.lookup k = none
  | [], vs, _, h, _ => by rw [RPs] at h; subst h; rfl
  | (k', y) :: xs, vs, k, h, e => by
    rw [RPs] at h
    obtain ⟨v, r, rfl, h1, h2⟩ := h
    rw [List.lookup_cons] at e ⊢
    cases q : k == k' with
    | true => rw [q] at e; cases e
    | false => rw [q] at e; exact RPs.lookup_none h2 e
end

/-- a field is put -/
def putV (f : Str) (v : Val) : List (Str × Val) → List (Str × Val)
  | [] => [(f, v)]
  | (g, x) :: r => if g == f then (g, v) :: r else (g, x) :: putV f v r
section
variable {K : PySem.W.Frag} {mg : Str → Option Value} {ρ : List Addr} {H : Hp}
theorem RPs.put {f : Str} {x : Val} {v : V} (hv : RV K mg ρ H x v) : ∀ {xs : List (Str × Val)} {vs : List (Str × V)}, RPs K mg ρ H xs vs → RPs K mg ρ H (putV f x xs) (putF f v vs)
  | [], _, h => by rw [RPs] at h; subst h; exact .cons hv .nil
  | (g, y) :: xs, vs, h => by
    rw [RPs] at h
    obtain ⟨w, r, rfl, h1, h2⟩ := h
    show RPs K mg ρ H (if g == f then (g, x) :: xs else (g, y) :: putV f x xs) (if g = f then (g, v) :: r else (g, w) :: putF f v r)
    by_cases hg : g = f
    · rw [if_pos hg, if_pos (beq_iff_eq.mpr hg)]
      exact .cons hv h2
    · rw [if_neg hg, if_neg (fun z => hg (beq_iff_eq.mp z))]
      exact .cons h1 (RPs.put hv h2)
theorem mem_putV {f : Str} {x : Val} : ∀ {xs : List (Str × Val)} {p : Str × Val}, p ∈ putV f x xs → p.1 = f ∨ ∃ q ∈ xs, q.1 = p.1
  | [], p, h => by simp [putV] at h; exact .inl (by rw [h])
  | (g, y) :: xs, p, h => by
    have h' : p ∈ (if g == f then (g, x) :: xs else (g, y) :: putV f x xs) := h
    split at h'
    · rcases List.mem_cons.mp h' with e | e
      · exact .inr ⟨(g, y), List.mem_cons_self, by rw [e]⟩
      · exact .inr ⟨p, List.mem_cons_of_mem _ e, rfl⟩
    · rcases List.mem_cons.mp h' with e | e
      · exact .inr ⟨(g, y), List.mem_cons_self, by rw [e]⟩
      · rcases mem_putV e with e | ⟨q, h1, h2⟩
        · exact .inl e
        · exact .inr ⟨q, List.mem_cons_of_mem _ h1, h2⟩
end
/-! ### the store -/
section
variable {K : PySem.W.Frag} {mg : Str → Option Value} {ρ ρ' : List Addr} {H H' : Hp} {st st' : Sto}
theorem RO.mono (e : Ext ρ H ρ' H') {o : Ob} {a : Addr} (ha : H' a = H a) (h : RO K mg ρ H o a) : RO K mg ρ' H' o a := by
  cases o with
  | lst xs => obtain ⟨vs, h1, h2⟩ := h; exact ⟨vs, ha.trans h1, h2.mono e⟩
  | dK kvs => obtain ⟨vs, h1, h2⟩ := h; exact ⟨vs, ha.trans h1, h2.mono e⟩
  | dT kvs => obtain ⟨vs, h1, h2⟩ := h; exact ⟨vs, ha.trans h1, h2.mono e⟩
  | ins c al fs => obtain ⟨C, dx, vs, h0, hc, hn, h1, h2, h3⟩ := h; exact ⟨C, dx, vs, h0, hc, hn, ha.trans h1, h2.mono e, h3⟩
theorem RO.there {o : Ob} {a : Addr} (h : RO K mg ρ H o a) : ∃ u, H a = some u ∧ Wr u := by
  cases o with
  | lst xs => obtain ⟨vs, h1, h2⟩ := h; exact ⟨_, h1, fun _ z => (by cases z), fun _ _ z => (by cases z), fun _ z => (by cases z)⟩
  | dK kvs => obtain ⟨vs, h1, h2⟩ := h; exact ⟨_, h1, fun _ z => (by cases z), fun _ _ z => (by cases z), fun _ z => (by cases z)⟩
  | dT kvs => obtain ⟨vs, h1, h2⟩ := h; exact ⟨_, h1, fun _ z => (by cases z), fun _ _ z => (by cases z), fun _ z => (by cases z)⟩
  | ins c al fs => obtain ⟨C, dx, vs, h0, hc, hn, h1, h2, h3⟩ := h; exact ⟨_, h1, fun _ z => (by cases z), fun _ _ z => (by cases z), fun _ z => (by cases z)⟩
theorem RS.addr (r : RS K mg ρ H st) {l : Nat} {o : Ob} (h : st[l]? = some o) : ∃ a, ρ[l]? = some a ∧ RO K mg ρ H o a := by
  have hl : l < ρ.length := by rw [r.len]; exact (List.getElem?_eq_some_iff.mp h).1
  exact ⟨ρ[l], List.getElem?_eq_getElem hl, r.ob l _ o (List.getElem?_eq_getElem hl) h⟩
theorem RS.at (r : RS K mg ρ H st) {l : Nat} {o : Ob} {a : Addr} (h : st[l]? = some o) (ha : ρ[l]? = some a) : RO K mg ρ H o a := r.ob l a o ha h
theorem RS.thereOf (r : RS K mg ρ H st) {l : Nat} {a : Addr} (ha : ρ[l]? = some a) : ∃ u, H a = some u := by
  have hl : l < st.length := by rw [← r.len]; exact (List.getElem?_eq_some_iff.mp ha).1
  obtain ⟨u, h, _⟩ := RO.there (r.ob l a _ ha (List.getElem?_eq_getElem hl))
  exact ⟨u, h⟩
/-- a new thing that is not of the store -/
theorem RS.new {p : Addr} {o : HO} (r : RS K mg ρ H st) (h : H p = none) : RS K mg ρ (upd H p o) st where
  len := r.len
  nd := r.nd
  ob := fun l a ob ha ho => by
    have q := r.ob l a ob ha ho
    obtain ⟨u, hu⟩ := r.thereOf ha
    exact q.mono (Ext.new h) (upd_ne (ne_of_none hu h))
/-- a new object of the store -/
theorem RS.snoc {p : Addr} {u : HO} {o : Ob} (r : RS K mg ρ H st) (h : H p = none) (ho : RO K mg (ρ ++ [p]) (upd H p u) o p) : RS K mg (ρ ++ [p]) (upd H p u) (st ++ [o]) where
  len := by simp [r.len]
  nd := by
    rw [List.nodup_append]
    refine ⟨r.nd, by simp, fun a ha b hb => ?_⟩
    obtain ⟨l, hl⟩ := List.mem_iff_getElem?.mp ha
    obtain ⟨u, hu⟩ := r.thereOf hl
    simp at hb
    subst hb
    exact ne_of_none hu h
  ob := fun l a ob ha hob => by
    by_cases hl : l < ρ.length
    · rw [List.getElem?_append_left hl] at ha
      rw [List.getElem?_append_left (by rw [← r.len]; exact hl)] at hob
      obtain ⟨u, hu⟩ := r.thereOf ha
      exact (r.ob l a ob ha hob).mono (Ext.snoc h) (upd_ne (ne_of_none hu h))
    · have hl2 : l = ρ.length := by
        have := (List.getElem?_eq_some_iff.mp ha).1
        simp at this; omega
      subst hl2
      simp at ha
      rw [r.len] at hob
      simp at hob
      subst ha hob
      exact ho
/-- an object of the store is written -/
theorem RS.set {l : Nat} {p : Addr} {u : HO} {o : Ob} (r : RS K mg ρ H st) (hp : ρ[l]? = some p) (ho : RO K mg ρ (upd H p u) o p) : RS K mg ρ (upd H p u) (st.set l o) where
  len := by simp [r.len]
  nd := r.nd
  ob := fun j a ob ha hob => by
    have hl : l < ρ.length := (List.getElem?_eq_some_iff.mp hp).1
    by_cases hj : j = l
    · subst hj
      rw [hp] at ha
      rw [List.getElem?_set_self (by rw [← r.len]; exact hl)] at hob
      cases ha; cases hob
      exact ho
    · rw [List.getElem?_set_ne (Ne.symm hj)] at hob
      have hne : a ≠ p := by
        rintro rfl
        obtain ⟨h1, e1⟩ := List.getElem?_eq_some_iff.mp ha
        obtain ⟨h2, e2⟩ := List.getElem?_eq_some_iff.mp hp
        exact hj ((List.getElem_inj r.nd).mp (e1.trans e2.symm))
      have hlt : l < st.length := by rw [← r.len]; exact hl
      obtain ⟨w, h1, h2⟩ := RO.there (r.ob l p _ hp (List.getElem?_eq_getElem hlt))
      exact (r.ob j a ob ha hob).mono (Ext.set h1 h2) (upd_ne hne)
theorem RS.ext {l : Nat} {p : Addr} {u : HO} (r : RS K mg ρ H st) (hp : ρ[l]? = some p) : Ext ρ H ρ (upd H p u) := by
  have hlt : l < st.length := by rw [← r.len]; exact (List.getElem?_eq_some_iff.mp hp).1
  obtain ⟨w, h1, h2⟩ := RO.there (r.ob l p _ hp (List.getElem?_eq_getElem hlt))
  exact Ext.set h1 h2
end
end Sm

/-! The Sim layer, part 1: the judgements; names, constants, operators, tests. -/
namespace Sm
open PySem L2

/-- what holds an exception in an except suite: its slot, its place, its class, its dict -/
structure XI where
  i : Nat
  a : Addr
  cls : Value
  d : Option Addr
/-- what stands around a code: the names by slot, the scope, the room, whether nothing is handled, whether it is a def's own body, the names that may be stored, the exception that is held -/
structure Sc where
  N : List Str
  sc : Scope
  k : Nat
  calm : Bool := true
  top : Bool := true
  fn : Str → Bool := fun _ => true
  xi : Option XI := none

structure XOk (P : Program) (w : World) (K : PySem.W.Frag) (mg : Str → Option Value) (base : Heap) (S : Sc) (X : Cx) : Prop where
  prog : P = X.prog
  w : w = X.w
  K : K = X.K
  mg : mg = X.mg
  base : base = X.base
  N : S.N = X.N
  scope : S.sc = X.env.scope
  calm : S.calm = X.calm
  room : S.calm = true → Room S.k X.A
  top : S.top = true → X.stack = X.env :: X.outer ∧ X.env.frame = some X.env.locals
  fn : ∀ x, S.fn x = true → X.fn x = true
  passes : PassesOwn (model X.prog X.w) X.A X.env X.xe
  gd : X.A.guards = some []
  suite : ∀ ξ, S.xi = some ξ → ∃ X0 oe pn, X = Cx.suite X0 ξ.a ((ξ.a, oe) :: pn) ∧ Zc ξ.cls ξ.d oe ∧ ∃ vs, oe.data = .fields vs

section
variable (K : PySem.W.Frag) (mg : Str → Option Value)
/-- the slots -/
def RE (ρ : List Addr) (H : Hp) (xi : Option XI) (env : Env) (σ : L2.St) : Prop :=
  σ.length = env.length ∧ (∀ (j : Nat) (x : Val), env[j]? = some (some x) → (∀ c fs, x ≠ .exc c fs) → ∃ v, σ[j]? = some (some v) ∧ RV K mg ρ H x v) ∧
    ∀ ξ c fs, xi = some ξ → env[ξ.i]? = some (some (.exc c fs)) → σ[ξ.i]? = some (some (.ref ξ.a)) ∧ RX K mg ρ H (c, fs) ξ.cls ξ.d
/-- what is wanted behind an expression -/
def Post {α β : Type} (rel : List Addr → Hp → α → β → Prop) (W : WX) (ρ : List Addr) (H : Hp) (σ : L2.St) (Q : β → Hp → Prop) : R α → Prop
  | .ok x st' => ∀ ρ' H' v, Ext ρ H ρ' H' → RS K mg ρ' H' st' → rel ρ' H' x v → Q v H'
  | .err x st' => ∀ ρ' H' cls d, Ext ρ H ρ' H' → RS K mg ρ' H' st' → RX K mg ρ' H' x cls d → W cls d σ H'
  | .stuck => False
abbrev relB : List Addr → Hp → Bool → Bool → Prop := fun _ _ a b => a = b
abbrev PostE := Post K mg (RV K mg)
abbrev PostB := Post K mg relB
abbrev PostA := Post K mg (RVs K mg)
def tE (W : WX) (xi : Option XI) (m : Ex) : TE := fun σ H Q => ∃ ρ st env, RS K mg ρ H st ∧ RE K mg ρ H xi env σ ∧ PostE K mg W ρ H σ Q (m env st)
def tT (W : WX) (xi : Option XI) (m : Tx) : TT := fun σ H Q => ∃ ρ st env, RS K mg ρ H st ∧ RE K mg ρ H xi env σ ∧ PostB K mg W ρ H σ Q (m env st)
def tA (W : WX) (xi : Option XI) (m : Ax) : TA := fun σ H Q => ∃ ρ st env, RS K mg ρ H st ∧ RE K mg ρ H xi env σ ∧ PostA K mg W ρ H σ Q (m env st)
/-- what is wanted behind a statement -/
def PostS (W : WX) (xi : Option XI) (ρ : List Addr) (H : Hp) (D : Ends) : SR → Prop
  | .nx e st' => ∀ ρ' H' σ', Ext ρ H ρ' H' → RS K mg ρ' H' st' → RE K mg ρ' H' xi e σ' → D.nx σ' H'
  | .bk e st' => ∀ ρ' H' σ', Ext ρ H ρ' H' → RS K mg ρ' H' st' → RE K mg ρ' H' xi e σ' → D.bk σ' H'
  | .ct e st' => ∀ ρ' H' σ', Ext ρ H ρ' H' → RS K mg ρ' H' st' → RE K mg ρ' H' xi e σ' → D.ct σ' H'
  | .rt x st' => ∀ ρ' H' v, Ext ρ H ρ' H' → RS K mg ρ' H' st' → RV K mg ρ' H' x v → D.rt v H'
  | .er x e st' => ∀ ρ' H' σ' cls d, Ext ρ H ρ' H' → RS K mg ρ' H' st' → RE K mg ρ' H' xi e σ' → RX K mg ρ' H' x cls d → W cls d σ' H'
  | .stuck => False
def tS (W : WX) (xi : Option XI) (m : Sx) : TS := fun D σ H => ∃ ρ st env, RS K mg ρ H st ∧ RE K mg ρ H xi env σ ∧ PostS K mg W xi ρ H D (m env st)
end

section
variable {K : PySem.W.Frag} {mg : Str → Option Value} {ρ ρ' : List Addr} {H H' : Hp} {W : WX} {σ : L2.St} {st : Sto} {xi : Option XI} {env : Env}
theorem RX.mono (e : Ext ρ H ρ' H') {x : Xn} {cls : Value} {d : Option Addr} (h : RX K mg ρ H x cls d) : RX K mg ρ' H' x cls d := by
  obtain ⟨C, h1, h2, h3⟩ := h
  refine ⟨C, h1, h2, ?_⟩
  rcases h3 with h3 | ⟨dd, ps, h3, h4, h5⟩
  · exact .inl h3
  · exact .inr ⟨dd, ps, h3, e.xds _ _ h4, h5.mono e⟩
theorem Post.mono {α β : Type} {rel : List Addr → Hp → α → β → Prop} {Q : β → Hp → Prop} {r : R α} (h : Post K mg rel W ρ H σ Q r) (e : Ext ρ H ρ' H') : Post K mg rel W ρ' H' σ Q r := by
  cases r with
  | ok x st' => exact fun ρ'' H'' v e' => h ρ'' H'' v (e.trans e')
  | err x st' => exact fun ρ'' H'' c d e' => h ρ'' H'' c d (e.trans e')
  | stuck => exact h
theorem PostS.mono {D : Ends} {r : SR} (h : PostS K mg W xi ρ H D r) (e : Ext ρ H ρ' H') : PostS K mg W xi ρ' H' D r := by
  cases r with
  | nx x st' => exact fun ρ'' H'' v e' => h ρ'' H'' v (e.trans e')
  | bk x st' => exact fun ρ'' H'' v e' => h ρ'' H'' v (e.trans e')
  | ct x st' => exact fun ρ'' H'' v e' => h ρ'' H'' v (e.trans e')
  | rt x st' => exact fun ρ'' H'' v e' => h ρ'' H'' v (e.trans e')
  | er x en st' => exact fun ρ'' H'' s c d e' => h ρ'' H'' s c d (e.trans e')
  | stuck => exact h
theorem Post.imp {α β : Type} {rel : List Addr → Hp → α → β → Prop} {Q Q' : β → Hp → Prop} {r : R α} (h : Post K mg rel W ρ H σ Q r) (f : ∀ v H', Q v H' → Q' v H') : Post K mg rel W ρ H σ Q' r := by
  cases r with
  | ok x st' => exact fun ρ'' H'' v e' a b => f _ _ (h ρ'' H'' v e' a b)
  | err x st' => exact h
  | stuck => exact h
/-- behind the first part -/
theorem Post.bind {α α' β β' : Type} {rel : List Addr → Hp → α → β → Prop} {rel' : List Addr → Hp → α' → β' → Prop} {Q : β' → Hp → Prop} {G : β → Hp → Prop} {r : R α} {f : α → Sto → R α'} (h : Post K mg rel' W ρ H σ Q (r.bind f))
    (g : ∀ ρ1 H1 st1 x v, r = .ok x st1 → Ext ρ H ρ1 H1 → RS K mg ρ1 H1 st1 → rel ρ1 H1 x v → Post K mg rel' W ρ1 H1 σ Q (f x st1) → G v H1) : Post K mg rel W ρ H σ G r := by
  cases r with
  | ok x st' => exact fun ρ1 H1 v e rs rv => g ρ1 H1 st' x v rfl e rs rv (Post.mono (r := f x st') h e)
  | err x st' => exact h
  | stuck => exact h
theorem RE.mono (re : RE K mg ρ H xi env σ) (e : Ext ρ H ρ' H') : RE K mg ρ' H' xi env σ := by
  refine ⟨re.1, fun j x hj hx => ?_, fun ξ c fs h1 h2 => ?_⟩
  · obtain ⟨v, h1, h2⟩ := re.2.1 j x hj hx
    exact ⟨v, h1, h2.mono e⟩
  · obtain ⟨h3, h4⟩ := re.2.2 ξ c fs h1 h2
    exact ⟨h3, h4.mono e⟩
/-- .. in a statement -/
theorem PostS.bind {α β : Type} {rel : List Addr → Hp → α → β → Prop} {D : Ends} {G : β → Hp → Prop} {r : R α} {f : α → Sto → SR} (h : PostS K mg W xi ρ H D (r.to env f)) (re : RE K mg ρ H xi env σ)
    (g : ∀ ρ1 H1 st1 x v, r = .ok x st1 → Ext ρ H ρ1 H1 → RS K mg ρ1 H1 st1 → rel ρ1 H1 x v → PostS K mg W xi ρ1 H1 D (f x st1) → G v H1) : Post K mg rel W ρ H σ G r := by
  cases r with
  | ok x st' => exact fun ρ1 H1 v e rs rv => g ρ1 H1 st' x v rfl e rs rv (PostS.mono (r := f x st') h e)
  | err x st' => exact fun ρ1 H1 cls d e rs rx => h ρ1 H1 σ cls d e rs (re.mono e) rx
  | stuck => exact h
end
end Sm

/-! The Sim layer, part 2: the judgements; names, constants, operators, tests. -/
namespace Sm
open PySem L2

theorem PE.imp {X : Cx} {e : Expr} {t t' : TE} (h : PE X e t) (f : ∀ σ H Q, t' σ H Q → t σ H Q) : PE X e t' := ⟨fun pins s σ H Q I q => h.run pins s σ H Q I (f _ _ _ q)⟩
theorem PT.imp {X : Cx} {e : Expr} {t t' : TT} (h : PT X e t) (f : ∀ σ H Q, t' σ H Q → t σ H Q) : PT X e t' := ⟨fun pins s σ H Q I q => h.run pins s σ H Q I (f _ _ _ q)⟩
theorem PW.imp {X : Cx} {e : Expr} {t t' : TT} (h : PW X e t) (f : ∀ σ H Q, t' σ H Q → t σ H Q) : PW X e t' := ⟨fun w pins s σ H Q I q => h.run w pins s σ H Q I (f _ _ _ q)⟩
theorem PA.imp {X : Cx} {e : List Expr} {t t' : TA} (h : PA X e t) (f : ∀ σ H Q, t' σ H Q → t σ H Q) : PA X e t' := ⟨fun pos pins s σ H Q I q => h.run pos pins s σ H Q I (f _ _ _ q)⟩
theorem PS.imp {X : Cx} {e : Stmt} {t t' : TS} (h : PS X e t) (f : ∀ D σ H, t' D σ H → t D σ H) : PS X e t' := ⟨fun pins s σ H D I q => h.run pins s σ H D I (f _ _ _ q)⟩
theorem PSs.imp {X : Cx} {e : List Stmt} {t t' : TS} (h : PSs X e t) (f : ∀ D σ H, t' D σ H → t D σ H) : PSs X e t' := ⟨fun pins s σ H D I q => h.run pins s σ H D I (f _ _ _ q)⟩

section
variable (P : Program) (w : World) (K : PySem.W.Frag) (mg : Str → Option Value) (base : Heap) (S : Sc)
def SimE (e : Expr) (m : Ex) : Prop := ∀ X W, XOk P w K mg base S X → Takes X W → PE X e (tE K mg W S.xi m)
def SimT (e : Expr) (m : Tx) : Prop := ∀ X W, XOk P w K mg base S X → Takes X W → PT X e (tT K mg W S.xi m)
def SimW (e : Expr) (m : Tx) : Prop := ∀ X W, XOk P w K mg base S X → Takes X W → PW X e (tT K mg W S.xi m)
def SimA (es : List Expr) (m : Ax) : Prop := ∀ X W, XOk P w K mg base S X → Takes X W → PA X es (tA K mg W S.xi m)
def SimS (s : Stmt) (m : Sx) : Prop := ∀ X W, XOk P w K mg base S X → Takes X W → PS X s (tS K mg W S.xi m)
def SimSs (s : List Stmt) (m : Sx) : Prop := ∀ X W, XOk P w K mg base S X → Takes X W → PSs X s (tS K mg W S.xi m)
/-- an operator of two values -/
def OpOk (f : Value → Value → Sem Value) (o : Val → Val → Sto → R Val) : Prop := ∀ X, XOk P w K mg base S X → ∃ r : R2, OpR X f r ∧
  ∀ (ρ : List Addr) (H : Hp) (st : Sto) (x y : Val) (v u : V) (W : WX) (σ : L2.St) (Q : VK), RS K mg ρ H st → RV K mg ρ H x v → RV K mg ρ H y u → PostE K mg W ρ H σ Q (o x y st) → r v u H Q
/-- a call of a value -/
def ClOk (f : Value) (o : List Val → Sto → R Val) : Prop := ∀ X, XOk P w K mg base S X → ∃ r : List V → Hp → VK → Prop, CallR X f r ∧
  ∀ (ρ : List Addr) (H : Hp) (st : Sto) (xs : List Val) (vs : List V) (W : WX) (σ : L2.St) (Q : VK), RS K mg ρ H st → RVs K mg ρ H xs vs → PostE K mg W ρ H σ Q (o xs st) → r vs H Q
end

/-! ### the combinators -/
def eVar (i : Nat) : Ex := fun env st => match env[i]? with
  | some (some (.exc _ _)) => .stuck
  | some (some v) => .ok v st
  | _ => .stuck
def eC (v : Val) : Ex := fun _ st => .ok v st
def eOp (o : Val → Val → Sto → R Val) (a b : Ex) : Ex := fun env st => (a env st).bind fun x st1 => (b env st1).bind fun y st2 => o x y st2
def eUn (o : Val → Sto → R Val) (a : Ex) : Ex := fun env st => (a env st).bind fun x st1 => o x st1
def eChain (o o' : Val → Val → Sto → R Val) (a b c : Ex) : Ex := fun env st => (a env st).bind fun x st1 => (b env st1).bind fun y st2 => (o x y st2).bind fun z st3 => match z with
  | .bl true => (c env st3).bind fun u st4 => o' y u st4
  | .bl false => .ok (.bl false) st3
  | _ => .stuck
def asB : Val → Sto → R Bool
  | .bl b, st => .ok b st
  | _, _ => .stuck
def tVal (a : Ex) : Tx := fun env st => (a env st).bind asB
def tAnd' (a b : Tx) : Tx := fun env st => (a env st).bind fun x st1 => if x then b env st1 else .ok false st1
def tOr' (a b : Tx) : Tx := fun env st => (a env st).bind fun x st1 => if x then .ok true st1 else b env st1
def tNot' (a : Tx) : Tx := fun env st => (a env st).bind fun x st1 => .ok (!x) st1
def eAnd (a b : Ex) : Ex := fun env st => (a env st).bind fun x st1 => match x with
  | .bl true => b env st1
  | .bl false => .ok (.bl false) st1
  | _ => .stuck
def eOr (a b : Ex) : Ex := fun env st => (a env st).bind fun x st1 => match x with
  | .bl true => .ok (.bl true) st1
  | .bl false => b env st1
  | _ => .stuck
def eNot (a : Ex) : Ex := fun env st => (a env st).bind fun x st1 => match x with
  | .bl b => .ok (.bl (!b)) st1
  | _ => .stuck
def eIf (c : Tx) (a b : Ex) : Ex := fun env st => (c env st).bind fun x st1 => if x then a env st1 else b env st1
def aNil : Ax := fun _ st => .ok [] st
def aCons (a : Ex) (r : Ax) : Ax := fun env st => (a env st).bind fun x st1 => (r env st1).bind fun xs st2 => .ok (x :: xs) st2
def eTup (a : Ax) : Ex := fun env st => (a env st).bind fun xs st1 => if xs.length ≤ 16777216 then .ok (.tup xs) st1 else .stuck
def eLst (a : Ax) : Ex := fun env st => (a env st).bind fun xs st1 => if xs.length ≤ 16777216 then .ok (.loc st1.length) (st1 ++ [.lst xs]) else .stuck
def eCall (o : List Val → Sto → R Val) (a : Ax) : Ex := fun env st => (a env st).bind fun xs st1 => o xs st1

section
variable {P : Program} {w : World} {K : PySem.W.Frag} {mg : Str → Option Value} {base : Heap} {S : Sc}
variable {e a b c : Expr} {es : List Expr} {ma mb mc : Ex} {ta tb : Tx} {aa ab : Ax} {pos : Pos} {o o' : Val → Val → Sto → R Val}

theorem simE_var {i : Nat} {x : Str} (hN : S.N[i]? = some x) (hv : Vis S.sc x) (hd : (x == ("__debug__" : Str)) = false := by decide) (hcd : (x == ("__classdict__" : Str)) = false := by decide) : SimE P w K mg base S (.Name x pos) (eVar i) := fun X W hX tk => by
  refine PE.imp (pe_var (i := i) (by rw [← hX.N]; exact hN) (by rw [← hX.scope]; exact hv) hd hcd) fun σ H Q ⟨ρ, st, env, rs, re, h⟩ => ?_
  unfold eVar at h
  split at h
  · exact h.elim
  · rename_i v hne he
    obtain ⟨u, h1, h2⟩ := re.2.1 i v he hne
    exact ⟨u, h1, h ρ H u .refl rs h2⟩
  · exact h.elim
theorem simE_C {v : Val} {u : V} (h : ∀ X, PE X e (tC u)) (hr : ∀ ρ H, RV K mg ρ H v u) : SimE P w K mg base S e (eC v) := fun X W hX tk =>
  PE.imp (h X) fun σ H Q ⟨ρ, st, env, rs, re, q⟩ => q ρ H u .refl rs (hr ρ H)
theorem simE_int {i : Int} {j} : SimE P w K mg base S (.Constant (.int i) j pos) (eC (.int i)) := simE_C (fun _ => pe_int) fun _ _ => by rw [RV]
theorem simE_bl {i : Bool} {j} : SimE P w K mg base S (.Constant (.bool i) j pos) (eC (.bl i)) := simE_C (fun _ => pe_bl) fun _ _ => by rw [RV]
theorem simE_str {i : Str} {j} : SimE P w K mg base S (.Constant (.str i) j pos) (eC (.str i)) := simE_C (fun _ => pe_str) fun _ _ => by rw [RV]
theorem simE_non {j} : SimE P w K mg base S (.Constant .none j pos) (eC .non) := simE_C (fun _ => pe_non) fun _ _ => by rw [RV]
/-- a module's constant, class, def -/
theorem simE_glob {x : Str} {u : Value} {v : V} {z : Val} (hg : S.sc.names.lookup x = some .globalImplicit) (hm : mg x = some u) (r : RelV v u) (hz : ∀ ρ H, RV K mg ρ H z v) (hd : (x == ("__debug__" : Str)) = false := by decide) : SimE P w K mg base S (.Name x pos) (eC z) := fun X W hX tk =>
  PE.imp (pe_glob (v := v) (show X.env.scope.names.lookup x = _ by rw [← hX.scope]; exact hg) (by rw [← hX.mg]; exact hm) r hd) fun σ H Q ⟨ρ, st, env, rs, re, q⟩ => q ρ H v .refl rs (hz ρ H)

theorem simE_op {op : Operator} (ho : OpOk P w K mg base S (binaryOp op) o) (ha : SimE P w K mg base S a ma) (hb : SimE P w K mg base S b mb) : SimE P w K mg base S (.BinOp a op b pos) (eOp o ma mb) := fun X W hX tk => by
  obtain ⟨r, h1, h2⟩ := ho X hX
  refine PE.imp (pe_op h1 (ha X W hX tk) (hb X W hX tk)) fun σ H Q ⟨ρ, st, env, rs, re, h⟩ => ?_
  refine ⟨ρ, st, env, rs, re, Post.bind h fun ρ1 H1 st1 x v _ e1 rs1 rv p1 => ?_⟩
  refine ⟨ρ1, st1, env, rs1, re.mono e1, Post.bind p1 fun ρ2 H2 st2 y u _ e2 rs2 ru p2 => ?_⟩
  exact h2 ρ2 H2 st2 x y v u W σ Q rs2 (rv.mono e2) ru p2
theorem simE_cmp {op : CmpOp} (ho : OpOk P w K mg base S (compareOp op) o) (ha : SimE P w K mg base S a ma) (hb : SimE P w K mg base S b mb) (hm : behindInMarks op b = false) : SimE P w K mg base S (.Compare a [op] [b] pos) (eOp o ma mb) := fun X W hX tk => by
  obtain ⟨r, h1, h2⟩ := ho X hX
  refine PE.imp (pe_cmpR h1 (ha X W hX tk) (hb X W hX tk) hm) fun σ H Q ⟨ρ, st, env, rs, re, h⟩ => ?_
  refine ⟨ρ, st, env, rs, re, Post.bind h fun ρ1 H1 st1 x v _ e1 rs1 rv p1 => ?_⟩
  refine ⟨ρ1, st1, env, rs1, re.mono e1, Post.bind p1 fun ρ2 H2 st2 y u _ e2 rs2 ru p2 => ?_⟩
  exact h2 ρ2 H2 st2 x y v u W σ Q rs2 (rv.mono e2) ru p2
theorem blOf {ρ : List Addr} {H : Hp} {x : Val} {v : V} {W : WX} {σ : L2.St} {st : Sto} {Q : Bool → Hp → Prop} (rs : RS K mg ρ H st) (rv : RV K mg ρ H x v)
    (h : PostB K mg W ρ H σ Q (asB x st)) : ∃ k, v = .bl k ∧ Q k H := by
  cases x with
  | bl b => rw [RV] at rv; exact ⟨b, rv, h ρ H b .refl rs rfl⟩
  | _ => exact h.elim
theorem simT_cmp {op : CmpOp} (ho : OpOk P w K mg base S (compareOp op) o) (ha : SimE P w K mg base S a ma) (hb : SimE P w K mg base S b mb) (hm : behindInMarks op b = false) : SimT P w K mg base S (.Compare a [op] [b] pos) (tVal (eOp o ma mb)) := fun X W hX tk => by
  obtain ⟨r, h1, h2⟩ := ho X hX
  refine PT.imp (pt_cmpR h1 (ha X W hX tk) (hb X W hX tk) hm) fun σ H Q ⟨ρ, st, env, rs, re, h⟩ => ?_
  have h' := Post.bind (rel := RV K mg) (G := fun v H1 => ∃ k, v = .bl k ∧ Q k H1) h fun ρ1 H1 st1 x v _ e1 rs1 rv p1 => blOf rs1 rv p1
  refine ⟨ρ, st, env, rs, re, Post.bind h' fun ρ1 H1 st1 x v _ e1 rs1 rv p1 => ?_⟩
  refine ⟨ρ1, st1, env, rs1, re.mono e1, Post.bind p1 fun ρ2 H2 st2 y u _ e2 rs2 ru p2 => ?_⟩
  exact h2 ρ2 H2 st2 x y v u W σ _ rs2 (rv.mono e2) ru p2
theorem simT_val (h : SimE P w K mg base S e ma) (he : ∀ env whole, isTrue e env whole = (do let v ← whole; standAt e.pos; holding [v] (truthy v))) : SimT P w K mg base S e (tVal ma) := fun X W hX tk =>
  PT.imp (pt_val (h X W hX tk) (he X.env)) fun σ H Q ⟨ρ, st, env, rs, re, q⟩ => ⟨ρ, st, env, rs, re, Post.bind q fun ρ1 H1 st1 x v _ e1 rs1 rv p1 => blOf rs1 rv p1⟩
theorem simE_chain {op op' : CmpOp} (ho : OpOk P w K mg base S (compareOp op) o) (ho' : OpOk P w K mg base S (compareOp op') o') (ha : SimE P w K mg base S a ma) (hb : SimE P w K mg base S b mb) (hc : SimE P w K mg base S c mc)
    (hm : lastMarks [op, op'] [b, c] = false) : SimE P w K mg base S (.Compare a [op, op'] [b, c] pos) (eChain o o' ma mb mc) := fun X W hX tk => by
  obtain ⟨r, h1, h2⟩ := ho X hX
  obtain ⟨r', h1', h2'⟩ := ho' X hX
  refine PE.imp (pe_chain h1 h1' (ha X W hX tk) (hb X W hX tk) (hc X W hX tk) hm) fun σ H Q ⟨ρ, st, env, rs, re, h⟩ => ?_
  refine ⟨ρ, st, env, rs, re, Post.bind h fun ρ1 H1 st1 x v _ e1 rs1 rv p1 => ?_⟩
  refine ⟨ρ1, st1, env, rs1, re.mono e1, Post.bind p1 fun ρ2 H2 st2 y u _ e2 rs2 ru p2 => ?_⟩
  refine h2 ρ2 H2 st2 x y v u W σ _ rs2 (rv.mono e2) ru (Post.bind p2 fun ρ3 H3 st3 z k _ e3 rs3 rz p3 => ?_)
  cases z with
  | bl q =>
    rw [RV] at rz
    cases q with
    | true => exact ⟨true, rz, by rw [if_pos rfl]; exact ⟨ρ3, st3, env, rs3, ((re.mono e1).mono e2).mono e3, Post.bind p3 fun ρ4 H4 st4 z2 k2 _ e4 rs4 rz2 p4 => h2' ρ4 H4 st4 y z2 u k2 W σ Q rs4 ((ru.mono e3).mono e4) rz2 p4⟩⟩
    | false => exact ⟨false, rz, by rw [if_neg (by simp)]; exact p3 ρ3 H3 _ .refl rs3 (by rw [RV])⟩
  | _ => exact p3.elim
theorem simW_and1 (ha : SimT P w K mg base S a ta) : SimW P w K mg base S (.BoolOp .And [a] pos) ta := fun X W hX tk => pw_and1 (ha X W hX tk)
theorem simW_or1 (ha : SimT P w K mg base S a ta) : SimW P w K mg base S (.BoolOp .Or [a] pos) ta := fun X W hX tk => pw_or1 (ha X W hX tk)
theorem simW_and (ha : SimT P w K mg base S a ta) (hb : SimW P w K mg base S (.BoolOp .And (b :: es) pos) tb) : SimW P w K mg base S (.BoolOp .And (a :: b :: es) pos) (tAnd' ta tb) := fun X W hX tk =>
  PW.imp (pw_and (ha X W hX tk) (hb X W hX tk)) fun σ H Q ⟨ρ, st, env, rs, re, h⟩ => ⟨ρ, st, env, rs, re, Post.bind h fun ρ1 H1 st1 x v _ e1 rs1 rv p1 => by
    cases rv
    cases x with
    | true => rw [if_pos rfl]; exact ⟨ρ1, st1, env, rs1, re.mono e1, p1⟩
    | false => rw [if_neg (by simp)]; exact p1 ρ1 H1 false .refl rs1 rfl⟩
theorem simW_or (ha : SimT P w K mg base S a ta) (hb : SimW P w K mg base S (.BoolOp .Or (b :: es) pos) tb) : SimW P w K mg base S (.BoolOp .Or (a :: b :: es) pos) (tOr' ta tb) := fun X W hX tk =>
  PW.imp (pw_or (ha X W hX tk) (hb X W hX tk)) fun σ H Q ⟨ρ, st, env, rs, re, h⟩ => ⟨ρ, st, env, rs, re, Post.bind h fun ρ1 H1 st1 x v _ e1 rs1 rv p1 => by
    cases rv
    cases x with
    | false => rw [if_neg (by simp)]; exact ⟨ρ1, st1, env, rs1, re.mono e1, p1⟩
    | true => rw [if_pos rfl]; exact p1 ρ1 H1 true .refl rs1 rfl⟩
theorem simT_W (h : SimW P w K mg base S e ta) : SimT P w K mg base S e ta := fun X W hX tk => (h X W hX tk).pt
theorem simT_not (ha : SimT P w K mg base S a ta) : SimT P w K mg base S (.UnaryOp .Not a pos) (tNot' ta) := fun X W hX tk =>
  PT.imp (pt_not (ha X W hX tk)) fun σ H Q ⟨ρ, st, env, rs, re, h⟩ => ⟨ρ, st, env, rs, re, Post.bind h fun ρ1 H1 st1 x v _ e1 rs1 rv p1 => by
    cases rv; exact p1 ρ1 H1 (!x) .refl rs1 rfl⟩
theorem simE_one {op} (ha : SimE P w K mg base S a ma) : SimE P w K mg base S (.BoolOp op [a] pos) ma := fun X W hX tk => pe_one (ha X W hX tk)
theorem simE_and (ha : SimE P w K mg base S a ma) (hb : SimE P w K mg base S (.BoolOp .And (b :: es) pos) mb) : SimE P w K mg base S (.BoolOp .And (a :: b :: es) pos) (eAnd ma mb) := fun X W hX tk =>
  PE.imp (pe_and (ha X W hX tk) (hb X W hX tk)) fun σ H Q ⟨ρ, st, env, rs, re, h⟩ => ⟨ρ, st, env, rs, re, Post.bind h fun ρ1 H1 st1 x v _ e1 rs1 rv p1 => by
    cases x with
    | bl q =>
      rw [RV] at rv
      cases q with
      | true => exact ⟨true, rv, by rw [if_pos rfl]; exact ⟨ρ1, st1, env, rs1, re.mono e1, p1⟩⟩
      | false => exact ⟨false, rv, by rw [if_neg (by simp)]; exact p1 ρ1 H1 _ .refl rs1 (by rw [RV])⟩
    | _ => exact p1.elim⟩
theorem simE_or (ha : SimE P w K mg base S a ma) (hb : SimE P w K mg base S (.BoolOp .Or (b :: es) pos) mb) : SimE P w K mg base S (.BoolOp .Or (a :: b :: es) pos) (eOr ma mb) := fun X W hX tk =>
  PE.imp (pe_or (ha X W hX tk) (hb X W hX tk)) fun σ H Q ⟨ρ, st, env, rs, re, h⟩ => ⟨ρ, st, env, rs, re, Post.bind h fun ρ1 H1 st1 x v _ e1 rs1 rv p1 => by
    cases x with
    | bl q =>
      rw [RV] at rv
      cases q with
      | false => exact ⟨false, rv, by rw [if_neg (by simp)]; exact ⟨ρ1, st1, env, rs1, re.mono e1, p1⟩⟩
      | true => exact ⟨true, rv, by rw [if_pos rfl]; exact p1 ρ1 H1 _ .refl rs1 (by rw [RV])⟩
    | _ => exact p1.elim⟩
theorem simE_not (ha : SimE P w K mg base S a ma) : SimE P w K mg base S (.UnaryOp .Not a pos) (eNot ma) := fun X W hX tk =>
  PE.imp (pe_not (ha X W hX tk)) fun σ H Q ⟨ρ, st, env, rs, re, h⟩ => ⟨ρ, st, env, rs, re, Post.bind h fun ρ1 H1 st1 x v _ e1 rs1 rv p1 => by
    cases x with
    | bl q => rw [RV] at rv; exact ⟨q, rv, p1 ρ1 H1 _ .refl rs1 (by rw [RV])⟩
    | _ => exact p1.elim⟩
theorem simE_if {c : Expr} (hc : SimT P w K mg base S c ta) (ha : SimE P w K mg base S a ma) (hb : SimE P w K mg base S b mb) : SimE P w K mg base S (.IfExp c a b pos) (eIf ta ma mb) := fun X W hX tk =>
  PE.imp (pe_ifExp (hc X W hX tk) (ha X W hX tk) (hb X W hX tk)) fun σ H Q ⟨ρ, st, env, rs, re, h⟩ => ⟨ρ, st, env, rs, re, Post.bind h fun ρ1 H1 st1 x v _ e1 rs1 rv p1 => by
    cases rv
    cases x with
    | true => rw [if_pos rfl]; exact ⟨ρ1, st1, env, rs1, re.mono e1, p1⟩
    | false => rw [if_neg (by simp)]; exact ⟨ρ1, st1, env, rs1, re.mono e1, p1⟩⟩
theorem simA_nil : SimA P w K mg base S [] aNil := fun X W hX tk =>
  PA.imp pa_nil fun σ H Q ⟨ρ, st, env, rs, re, h⟩ => h ρ H [] .refl rs .nil
theorem simA_cons (ha : SimE P w K mg base S a ma) (hr : SimA P w K mg base S es ab) (hs : ∀ env, starEach (a :: es) env = (false, eval a env) :: starEach es env) : SimA P w K mg base S (a :: es) (aCons ma ab) := fun X W hX tk =>
  PA.imp (pa_cons (ha X W hX tk) (hr X W hX tk) (hs _)) fun σ H Q ⟨ρ, st, env, rs, re, h⟩ => ⟨ρ, st, env, rs, re, Post.bind h fun ρ1 H1 st1 x v _ e1 rs1 rv p1 =>
    ⟨ρ1, st1, env, rs1, re.mono e1, Post.bind p1 fun ρ2 H2 st2 xs vs _ e2 rs2 rvs p2 => p2 ρ2 H2 (v :: vs) .refl rs2 (.cons (rv.mono e2) rvs)⟩⟩
theorem line_le {n : Nat} (h : n ≤ 16777216) : n ≤ sizeLine := by rw [sizeLine_eq]; exact h
theorem le_line {n : Nat} (h : n ≤ sizeLine) : n ≤ 16777216 := by rw [sizeLine_eq] at h; exact h
theorem simE_tup {x1} (h : SimA P w K mg base S es aa) : SimE P w K mg base S (.Tuple es x1 pos) (eTup aa) := fun X W hX tk =>
  PE.imp (pe_tup (h X W hX tk)) fun σ H Q ⟨ρ, st, env, rs, re, h⟩ => ⟨ρ, st, env, rs, re, Post.bind h fun ρ1 H1 st1 xs vs _ e1 rs1 rvs p1 => by
    split at p1
    · rename_i hz
      refine ⟨line_le (by rw [rvs.length]; exact hz), fun p hp => p1 ρ1 _ (.ref p) (.new hp) (rs1.new hp) ?_⟩
      rw [RV]
      exact ⟨p, vs, rfl, upd_same, rvs.mono (.new hp)⟩
    · exact p1.elim⟩
theorem simE_lst (h : SimA P w K mg base S es aa) : SimE P w K mg base S (.List es pos) (eLst aa) := fun X W hX tk =>
  PE.imp (pe_lst (h X W hX tk)) fun σ H Q ⟨ρ, st, env, rs, re, h⟩ => ⟨ρ, st, env, rs, re, Post.bind h fun ρ1 H1 st1 xs vs _ e1 rs1 rvs p1 => by
    split at p1
    · rename_i hz
      refine ⟨line_le (by rw [rvs.length]; exact hz), fun p hp => p1 (ρ1 ++ [p]) _ (.ref p) (.snoc hp) (rs1.snoc hp ⟨vs, upd_same, rvs.mono (.snoc hp)⟩) ?_⟩
      rw [RV]
      exact ⟨p, rfl, by rw [← rs1.len]; simp⟩
    · exact p1.elim⟩
/-- a built-in by its name -/
theorem simE_callB {x : Str} {id : String} {p : Pos} {o : List Val → Sto → R Val} (hc : ClOk P w K mg base S (.builtin id) o) (hg : S.sc.names.lookup x = some .globalImplicit) (hm : mg x = none) (hv : bootBuiltins x = some (.builtin id)) (ha : SimA P w K mg base S (e :: es) aa)
    (hs : ∀ env, starEach (e :: es) env = (false, eval e env) :: starEach es env) (hpl : ∀ env, (backTo pos (starEach es env)).any (·.1) = false)
    (hn : x ≠ "__name__" := by decide) (hdb : (x == ("__debug__" : Str)) = false := by decide) : SimE P w K mg base S (.Call (.Name x p) (e :: es) [] pos) (eCall o aa) := fun X W hX tk => by
  obtain ⟨r, h1, h2⟩ := hc X hX
  exact PE.imp (pe_callB h1 (show X.env.scope.names.lookup x = _ by rw [← hX.scope]; exact hg) (by rw [← hX.mg]; exact hm) hv (ha X W hX tk) hn hdb (hs _) (hpl _)) fun σ H Q ⟨ρ, st, env, rs, re, h⟩ => ⟨ρ, st, env, rs, re, Post.bind h fun ρ1 H1 st1 xs vs _ e1 rs1 rvs p1 => h2 ρ1 H1 st1 xs vs W σ Q rs1 rvs p1⟩
theorem simE_callTy {x : Str} {id : String} {p : Pos} {o : List Val → Sto → R Val} (hc : ClOk P w K mg base S (.type id) o) (hg : S.sc.names.lookup x = some .globalImplicit) (hm : mg x = none) (hv : bootBuiltins x = some (.type id)) (ha : SimA P w K mg base S (e :: es) aa)
    (hs : ∀ env, starEach (e :: es) env = (false, eval e env) :: starEach es env) (hpl : ∀ env, (backTo pos (starEach es env)).any (·.1) = false)
    (hn : x ≠ "__name__" := by decide) (hdb : (x == ("__debug__" : Str)) = false := by decide) : SimE P w K mg base S (.Call (.Name x p) (e :: es) [] pos) (eCall o aa) := fun X W hX tk => by
  obtain ⟨r, h1, h2⟩ := hc X hX
  exact PE.imp (pe_callTy h1 (show X.env.scope.names.lookup x = _ by rw [← hX.scope]; exact hg) (by rw [← hX.mg]; exact hm) hv (ha X W hX tk) hn hdb (hs _) (hpl _)) fun σ H Q ⟨ρ, st, env, rs, re, h⟩ => ⟨ρ, st, env, rs, re, Post.bind h fun ρ1 H1 st1 xs vs _ e1 rs1 rvs p1 => h2 ρ1 H1 st1 xs vs W σ Q rs1 rvs p1⟩
end
end Sm

/-! The Sim layer, part 3: statements, targets, loops. -/
namespace Sm
open PySem L2

/-- a target of names: what the slots are behind it -/
abbrev Gx := Val → Env → Option Env
abbrev Gxs := List Val → Env → Option Env
section
variable (K : PySem.W.Frag) (mg : Str → Option Value)
/-- the slots but those of vs are as they were -/
def Agr (vs : List Nat) (σ σ' : L2.St) : Prop := σ'.length = σ.length ∧ ∀ j, j ∉ vs → σ'[j]? = σ[j]?
def PostG (xi : Option XI) (vs : List Nat) (σ : L2.St) (ρ : List Addr) (H : Hp) (st : Sto) (Q : L2.St → Hp → Prop) : Option Env → Prop
  | some env => ∀ ρ' H' σ', Ext ρ H ρ' H' → RS K mg ρ' H' st → RE K mg ρ' H' xi env σ' → Agr vs σ σ' → Q σ' H'
  | none => False
def tG (xi : Option XI) (vs : List Nat) (g : Gx) : TG := fun v σ H Q => ∃ ρ st env x, RS K mg ρ H st ∧ RE K mg ρ H xi env σ ∧ RV K mg ρ H x v ∧ PostG K mg xi vs σ ρ H st Q (g x env)
def tGs (xi : Option XI) (vs : List Nat) (g : Gxs) : TGs := fun us σ H Q => ∃ ρ st env xs, RS K mg ρ H st ∧ RE K mg ρ H xi env σ ∧ RVs K mg ρ H xs us ∧ PostG K mg xi vs σ ρ H st Q (g xs env)
end
theorem PG.imp {X : Cx} {e : Expr} {t t' : TG} (h : PG X e t) (f : ∀ v σ H Q, t' v σ H Q → t v σ H Q) : PG X e t' := ⟨fun pins s σ H v u Q I r q => h.run pins s σ H v u Q I r (f _ _ _ _ q)⟩
theorem PGs.imp {X : Cx} {e : List Expr} {t t' : TGs} (h : PGs X e t) (f : ∀ v σ H Q, t' v σ H Q → t v σ H Q) : PGs X e t' := ⟨fun pins s σ H v u Q I r q => h.run pins s σ H v u Q I r (f _ _ _ _ q)⟩
section
variable (P : Program) (w : World) (K : PySem.W.Frag) (mg : Str → Option Value) (base : Heap) (S : Sc)
def SimG (e : Expr) (vs : List Nat) (m : Gx) : Prop := ∀ X, XOk P w K mg base S X → PG X e (tG K mg S.xi vs m)
def SimGs (es : List Expr) (vs : List Nat) (m : Gxs) : Prop := ∀ X, XOk P w K mg base S X → PGs X es (tGs K mg S.xi vs m)
/-- o[i] = v, by values -/
def SetOk (o : Val → Val → Val → Sto → R Unit) : Prop := ∀ X, XOk P w K mg base S X → ∃ r : TSet, PSet X r ∧
  ∀ (ρ : List Addr) (H : Hp) (st : Sto) (x y z : Val) (a b c : V) (W : WX) (σ : L2.St) (Q : Unit → Hp → Prop), RS K mg ρ H st → RV K mg ρ H x a → RV K mg ρ H y b → RV K mg ρ H z c →
    Post K mg (fun _ _ _ _ => True) W ρ H σ Q (o x y z st) → r a b c H (fun H' => Q () H')
/-- a op= b, by values -/
def IpOk (op : Operator) (o : Val → Val → Sto → R Val) : Prop := ∀ X, XOk P w K mg base S X → ∃ r : TIp, PIp X op r ∧
  ∀ (ρ : List Addr) (H : Hp) (st : Sto) (x y : Val) (v u : V) (W : WX) (σ : L2.St) (Q : VK), RS K mg ρ H st → RV K mg ρ H x v → RV K mg ρ H y u → PostE K mg W ρ H σ Q (o x y st) → r v u H Q
end

/-! ### the combinators -/
def gNm (i : Nat) : Gx := fun x env => some (env.set i (some x))
def gNil' : Gxs := fun xs env => match xs with
  | [] => some env
  | _ => none
def gCons' (g : Gx) (gs : Gxs) : Gxs := fun xs env => match xs with
  | x :: r => (g x env).bind fun env' => gs r env'
  | [] => none
def gTup' (n : Nat) (gs : Gxs) : Gx := fun x env => match x with
  | .tup xs => if xs.length = n then gs xs env else none
  | .kt xs => if xs.length = n then gs xs env else none
  | _ => none
def sNil : Sx := fun env st => .nx env st
def sSeq (a b : Sx) : Sx := fun env st => match a env st with
  | .nx e s => b e s
  | r => r
def sDrop (a : Ex) : Sx := fun env st => (a env st).to env fun _ st1 => .nx env st1
def sRet (a : Ex) : Sx := fun env st => (a env st).to env fun x st1 => .rt x st1
def sRetN : Sx := fun _ st => .rt .non st
def sBrk : Sx := fun env st => .bk env st
def sCnt : Sx := fun env st => .ct env st
def sIf (c : Tx) (a b : Sx) : Sx := fun env st => (c env st).to env fun x st1 => if x then a env st1 else b env st1
def onG (r : Option Env) (f : Env → SR) : SR := match r with
  | some env => f env
  | none => .stuck
@[simp] theorem onG_some (e : Env) (f : Env → SR) : onG (some e) f = f e := rfl
@[simp] theorem onG_none (f : Env → SR) : onG none f = .stuck := rfl
def sAsg (a : Ex) (g : Gx) : Sx := fun env st => (a env st).to env fun x st1 => onG (g x env) fun env2 => .nx env2 st1
def sPar (i j : Nat) (a : Ax) : Sx := fun env st => (a env st).to env fun xs st1 => match xs with
  | [x, y] => .nx ((env.set i (some x)).set j (some y)) st1
  | _ => .stuck
def sAug (i : Nat) (o : Val → Val → Sto → R Val) (a : Ex) : Sx := fun env st => match env[i]? with
  | some (some (.exc _ _)) => .stuck
  | some (some x) => (a env st).to env fun y st1 => (o x y st1).to env fun z st2 => .nx (env.set i (some z)) st2
  | _ => .stuck
/-- o.f = e -/
def sFldS (f : Str) (o a : Ex) : Sx := fun env st => (a env st).to env fun x st1 => (o env st1).to env fun y st2 => match y with
  | .loc l => match st2[l]? with
    | some (.ins c al fs) => if al.contains f ∧ fs.length < 1000 then .nx env (st2.set l (.ins c al (putV f x fs))) else .stuck
    | _ => .stuck
  | _ => .stuck
/-- o.f op= e -/
def sFldA (f : Str) (op : Val → Val → Sto → R Val) (o a : Ex) : Sx := fun env st => (o env st).to env fun y st1 => match y with
  | .loc l => match st1[l]? with
    | some (.ins c al fs) => match fs.lookup f with
      | some x => (a env st1).to env fun z st2 => (op x z st2).to env fun u st3 => match st3[l]? with
        | some (.ins c' al' fs') => if c' = c ∧ al'.contains f ∧ fs'.length < 1000 then .nx env (st3.set l (.ins c al' (putV f u fs'))) else .stuck
        | _ => .stuck
      | none => .stuck
    | _ => .stuck
  | _ => .stuck
/-- o[i] = e -/
def sSub (s : Val → Val → Val → Sto → R Unit) (o i a : Ex) : Sx := fun env st => (a env st).to env fun x st1 => (o env st1).to env fun y st2 => (i env st2).to env fun z st3 => (s y z x st3).to env fun _ st4 => .nx env st4

section
variable {P : Program} {w : World} {K : PySem.W.Frag} {mg : Str → Option Value} {base : Heap} {S : Sc}
variable {e a b c : Expr} {es : List Expr} {st1 : Stmt} {sts : List Stmt} {ma mb mc : Ex} {ta tb : Tx} {aa ab : Ax} {sa sb : Sx} {pos pos' : Pos} {o o' : Val → Val → Sto → R Val} {ga : Gx} {gs : Gxs}
variable {ρ ρ' : List Addr} {H H' : Hp} {W : WX} {σ : L2.St} {st : Sto} {xi : Option XI} {env : Env}
theorem RE.set {i : Nat} {x : Val} {v : V} (re : RE K mg ρ H xi env σ) (h : RV K mg ρ H x v) : RE K mg ρ H xi (env.set i (some x)) (σ.set i (some v)) := by
  refine ⟨by simp [re.1], fun j y hj hy => ?_, fun ξ c fs h1 h2 => ?_⟩
  · by_cases hji : j = i
    · subst hji
      have hl : j < env.length := by
        have := (List.getElem?_eq_some_iff.mp hj).1
        simpa using this
      rw [List.getElem?_set_self hl] at hj
      cases hj
      exact ⟨v, List.getElem?_set_self (by rw [re.1]; exact hl), h⟩
    · rw [List.getElem?_set_ne (Ne.symm hji)] at hj ⊢
      exact re.2.1 j y hj hy
  · by_cases hji : ξ.i = i
    · have hl : ξ.i < env.length := by
        have := (List.getElem?_eq_some_iff.mp h2).1
        simpa using this
      rw [hji] at h2 hl
      rw [List.getElem?_set_self hl] at h2
      cases h2
      rw [RV] at h
      exact h.elim
    · rw [List.getElem?_set_ne (Ne.symm hji)] at h2 ⊢
      exact re.2.2 ξ c fs h1 h2
/-- behind the first statement -/
theorem PostS.seq {D : Ends} {m1 m2 : Sx} (h : PostS K mg W xi ρ H D (sSeq m1 m2 env st)) : PostS K mg W xi ρ H { D with nx := tS K mg W xi m2 D } (m1 env st) := by
  unfold sSeq at h
  cases q : m1 env st with
  | nx e' s' =>
    rw [q] at h
    exact fun ρ1 H1 σ1 e1 rs1 re1 => ⟨ρ1, s', e', rs1, re1, PostS.mono (r := m2 e' s') h e1⟩
  | bk e' s' => rw [q] at h; exact h
  | ct e' s' => rw [q] at h; exact h
  | rt e' s' => rw [q] at h; exact h
  | er x e' s' => rw [q] at h; exact h
  | stuck => rw [q] at h; exact h
theorem simSs_nil : SimSs P w K mg base S [] sNil := fun X W hX tk => PSs.imp pss_nil fun D σ H ⟨ρ, st, env, rs, re, h⟩ => h ρ H σ .refl rs re
theorem simSs_cons (h1 : SimS P w K mg base S st1 sa) (h2 : SimSs P w K mg base S sts sb) : SimSs P w K mg base S (st1 :: sts) (sSeq sa sb) := fun X W hX tk =>
  PSs.imp (pss_cons (h1 X W hX tk) (h2 X W hX tk)) fun D σ H ⟨ρ, st, env, rs, re, h⟩ => ⟨ρ, st, env, rs, re, h.seq⟩
theorem simSs_one (h1 : SimS P w K mg base S st1 sa) : SimSs P w K mg base S [st1] sa := fun X W hX tk => pss_one (h1 X W hX tk)
theorem simS_pass : SimS P w K mg base S (.Pass pos) sNil := fun X W hX tk => PS.imp ps_pass fun D σ H ⟨ρ, st, env, rs, re, h⟩ => h ρ H σ .refl rs re
theorem simS_brk : SimS P w K mg base S (.Break pos) sBrk := fun X W hX tk => PS.imp ps_break fun D σ H ⟨ρ, st, env, rs, re, h⟩ => h ρ H σ .refl rs re
theorem simS_cnt : SimS P w K mg base S (.Continue pos) sCnt := fun X W hX tk => PS.imp ps_continue fun D σ H ⟨ρ, st, env, rs, re, h⟩ => h ρ H σ .refl rs re
theorem simS_expr (ha : SimE P w K mg base S a ma) (hs : ∀ env, swapsWith a none pos.line env = pure false) : SimS P w K mg base S (.Expr a pos) (sDrop ma) := fun X W hX tk =>
  PS.imp (ps_expr (ha X W hX tk) (hs _)) fun D σ H ⟨ρ, st, env, rs, re, h⟩ => ⟨ρ, st, env, rs, re, PostS.bind h re fun ρ1 H1 st1 x v _ e1 rs1 rv p1 => p1 ρ1 H1 σ .refl rs1 (re.mono e1)⟩
theorem simS_ret (ha : SimE P w K mg base S a ma) : SimS P w K mg base S (.Return (some a) pos) (sRet ma) := fun X W hX tk =>
  PS.imp (ps_ret (ha X W hX tk)) fun D σ H ⟨ρ, st, env, rs, re, h⟩ => ⟨ρ, st, env, rs, re, PostS.bind h re fun ρ1 H1 st1 x v _ e1 rs1 rv p1 => p1 ρ1 H1 v .refl rs1 rv⟩
theorem simS_retN : SimS P w K mg base S (.Return none pos) sRetN := fun X W hX tk => PS.imp ps_retN fun D σ H ⟨ρ, st, env, rs, re, h⟩ => h ρ H .non .refl rs (by rw [RV])
theorem simS_if {sx sy : List Stmt} (hc : SimT P w K mg base S c ta) (ha : SimSs P w K mg base S sx sa) (hb : SimSs P w K mg base S sy sb) : SimS P w K mg base S (.If c sx sy pos) (sIf ta sa sb) := fun X W hX tk =>
  PS.imp (ps_if (hc X W hX tk) (ha X W hX tk) (hb X W hX tk)) fun D σ H ⟨ρ, st, env, rs, re, h⟩ => ⟨ρ, st, env, rs, re, PostS.bind h re fun ρ1 H1 st1 x v _ e1 rs1 rv p1 => by
    cases rv
    cases x with
    | true => rw [if_pos rfl]; exact ⟨ρ1, st1, env, rs1, re.mono e1, p1⟩
    | false => rw [if_neg (by simp)]; exact ⟨ρ1, st1, env, rs1, re.mono e1, p1⟩⟩
/-! targets -/
theorem simG_name {i : Nat} {x : Str} (hN : S.N.Nodup) (hi : S.N[i]? = some x) (hx : Loc S.sc x) (hf : S.fn x = true ∨ S.sc.names.lookup x = some .local) : SimG P w K mg base S (.Name x pos) [i] (gNm i) := fun X hX =>
  PG.imp (pg_name (i := i) (by rw [← hX.N]; exact hN) (by rw [← hX.N]; exact hi) (by rw [← hX.scope]; exact hx) (by rw [← hX.scope]; exact hf.imp (hX.fn x) id)) fun v σ H Q ⟨ρ, st, env, x, rs, re, rv, h⟩ => h ρ H _ .refl rs (re.set rv) ⟨by simp, fun j hj => List.getElem?_set_ne (fun z => hj (by simp [z]))⟩
theorem simGs_nil : SimGs P w K mg base S [] [] gNil' := fun X hX => PGs.imp pgs_nil fun vs σ H Q ⟨ρ, st, env, xs, rs, re, rv, h⟩ => by
  cases xs with
  | nil => rw [RVs] at rv; exact ⟨rv, h ρ H σ .refl rs re ⟨rfl, fun _ _ => rfl⟩⟩
  | cons _ _ => exact h.elim
theorem simGs_cons {vs ws : List Nat} (h1 : SimG P w K mg base S a vs ga) (h2 : SimGs P w K mg base S es ws gs) (he : ∀ env, (assignEach (a :: es) env).map (·.2) = assign a env :: (assignEach es env).map (·.2)) : SimGs P w K mg base S (a :: es) (vs ++ ws) (gCons' ga gs) := fun X hX =>
  PGs.imp (pgs_cons (h1 X hX) (h2 X hX) (he _)) fun us σ H Q ⟨ρ, st, env, xs, rs, re, rv, h⟩ => by
    cases xs with
    | nil => exact h.elim
    | cons x r =>
      rw [RVs] at rv
      obtain ⟨v, r', rfl, h1, h2⟩ := rv
      refine ⟨v, r', rfl, ρ, st, env, x, rs, re, h1, ?_⟩
      have h' : PostG K mg S.xi (vs ++ ws) σ ρ H st Q ((ga x env).bind fun env' => gs r env') := h
      cases q : ga x env with
      | none => rw [q] at h'; exact h'
      | some env' =>
        rw [q] at h'
        refine fun ρ1 H1 σ1 e1 rs1 re1 g1 => ⟨ρ1, st, env', r, rs1, re1, h2.mono e1, ?_⟩
        have h'' : PostG K mg S.xi (vs ++ ws) σ ρ H st Q (gs r env') := h'
        cases q2 : gs r env' with
        | none => rw [q2] at h''; exact h''
        | some env2 =>
          rw [q2] at h''
          exact fun ρ2 H2 σ2 e2 rs2 re2 g2 => h'' ρ2 H2 σ2 (e1.trans e2) rs2 re2 ⟨g2.1.trans g1.1, fun j hj => (g2.2 j (fun z => hj (List.mem_append_right _ z))).trans (g1.2 j (fun z => hj (List.mem_append_left _ z)))⟩
theorem RV.seqT {x : Val} {xs : List Val} {v : V} (hx : x = .tup xs ∨ x = .kt xs) (h : RV K mg ρ H x v) : ∃ a vs, v = .ref a ∧ SqT K H a vs ∧ RVs K mg ρ H xs vs := by
  rcases hx with rfl | rfl
  · rw [RV] at h
    obtain ⟨a, vs, rfl, h1, h2⟩ := h
    exact ⟨a, vs, rfl, SqT.of h1, h2⟩
  · rw [RV] at h
    obtain ⟨a, vs, rfl, h1, h2⟩ := h
    exact ⟨a, vs, rfl, .inr h1, h2⟩
theorem simG_tup {k n : Nat} {vs : List Nat} (hc : S.calm = true) (h : SimGs P w K mg base S es vs gs) (hl : ∀ env, (assignEach es env).length = n) (hs : ∀ env, (assignEach es env).findIdx? (·.1) = none) :
    SimG P w K mg base S (.Tuple es k pos) vs (gTup' n gs) := fun X hX => by
  refine PG.imp (pg_tup (n := n) (by rw [← hX.calm]; exact hc) (h X hX) (hl _) (hs _)) fun v σ H Q ⟨ρ, st, env, x, rs, re, rv, h⟩ => ?_
  obtain ⟨xs, hx, hn, h'⟩ : ∃ xs, (x = .tup xs ∨ x = .kt xs) ∧ xs.length = n ∧ PostG K mg S.xi vs σ ρ H st Q (gs xs env) := by
    unfold gTup' at h
    split at h
    · split at h
      · exact ⟨_, .inl rfl, by assumption, h⟩
      · exact h.elim
    · split at h
      · exact ⟨_, .inr rfl, by assumption, h⟩
      · exact h.elim
    · exact h.elim
  obtain ⟨a, us, rfl, h1, h2⟩ := rv.seqT hx
  refine ⟨a, us, rfl, by rw [← hX.K]; exact h1, by rw [h2.length]; exact hn, ρ, st, env, xs, rs, re, h2, h'⟩
/-! assignments -/
theorem simS_asg {tg : Expr} {gv : List Nat} (ha : SimE P w K mg base S a ma) (hg : SimG P w K mg base S tg gv ga) (hs : ∀ env, swapsWithSole [tg] a pos.line env = pure false) (hw : ∀ env : PySem.Env, env.scope = S.sc → swappedStores [tg] a env = pure none)
    (h1 : ∀ env, (assignEach [tg] env).map (·.2) = [assign tg env]) : SimS P w K mg base S (.Assign [tg] a pos) (sAsg ma ga) := fun X W hX tk =>
  PS.imp (ps_asg (ha X W hX tk) (hg X hX) (hs _) (hw _ hX.scope.symm) (h1 _)) fun D σ H ⟨ρ, st, env, rs, re, h⟩ => ⟨ρ, st, env, rs, re, PostS.bind h re fun ρ1 H1 st1 x v _ e1 rs1 rv p1 => ⟨ρ1, st1, env, x, rs1, re.mono e1, rv, by
    cases q : ga x env with
    | none => rw [q] at p1; exact p1.elim
    | some env' => rw [q] at p1; exact fun ρ2 H2 σ2 e2 rs2 re2 _ => p1 ρ2 H2 σ2 e2 rs2 re2⟩⟩
theorem simS_set {i : Nat} {x : Str} (hN : S.N.Nodup) (hi : S.N[i]? = some x) (hx : Loc S.sc x) (hf : S.fn x = true ∨ S.sc.names.lookup x = some .local) (ha : SimE P w K mg base S a ma) (hs : ∀ env, swapsWith a (some (.Name x pos')) pos.line env = pure false) :
    SimS P w K mg base S (.Assign [.Name x pos'] a pos) (sAsg ma (gNm i)) := fun X W hX tk =>
  PS.imp (ps_set (i := i) (by rw [← hX.N]; exact hN) (by rw [← hX.N]; exact hi) (by rw [← hX.scope]; exact hx) (ha X W hX tk) (hs _) (by rw [← hX.scope]; exact hf.imp (hX.fn x) id)) fun D σ H ⟨ρ, st, env, rs, re, h⟩ =>
    ⟨ρ, st, env, rs, re, PostS.bind h re fun ρ1 H1 st1 x v _ e1 rs1 rv p1 => p1 ρ1 H1 _ .refl rs1 ((re.mono e1).set rv)⟩
theorem simS_par {i j : Nat} {x y : Str} {px py pt : Pos} {kt k2 pt2} (hc : S.calm = true) (hN : S.N.Nodup) (hi : S.N[i]? = some x) (hj : S.N[j]? = some y) (hij : i ≠ j) (hx : S.sc.names.lookup x = some .local) (hy : S.sc.names.lookup y = some .local) (ha : SimA P w K mg base S [a, b] aa)
    (hw : ∀ env : PySem.Env, env.scope = S.sc → swappedStores [.Tuple [.Name x px, .Name y py] kt pt] (.Tuple [a, b] k2 pt2) env = pure (some [x, y]))
    (hs : ∀ env, swapsWithSole [.Tuple [.Name x px, .Name y py] kt pt] (.Tuple [a, b] k2 pt2) pos.line env = pure false) :
    SimS P w K mg base S (.Assign [.Tuple [.Name x px, .Name y py] kt pt] (.Tuple [a, b] k2 pt2) pos) (sPar i j aa) := fun X W hX tk =>
  PS.imp (ps_par (i := i) (j := j) (by rw [← hX.calm]; exact hc) (by rw [← hX.N]; exact hN) (by rw [← hX.N]; exact hi) (by rw [← hX.N]; exact hj) hij (by rw [← hX.scope]; exact hx) (by rw [← hX.scope]; exact hy) (ha X W hX tk) (hw _ hX.scope.symm) (hs _)) fun D σ H ⟨ρ, st, env, rs, re, h⟩ =>
    ⟨ρ, st, env, rs, re, PostS.bind h re fun ρ1 H1 st1 xs vs _ e1 rs1 rvs p1 => by
      match xs, rvs, p1 with
      | [x1, x2], rvs, p1 =>
        rw [RVs] at rvs
        obtain ⟨v1, r1, rfl, q1, rvs⟩ := rvs
        rw [RVs] at rvs
        obtain ⟨v2, r2, rfl, q2, rvs⟩ := rvs
        rw [RVs] at rvs
        subst rvs
        exact ⟨v1, v2, rfl, p1 ρ1 H1 _ .refl rs1 (((re.mono e1).set q1).set q2)⟩
      | [], _, p1 => exact p1.elim
      | [_], _, p1 => exact p1.elim
      | _ :: _ :: _ :: _, _, p1 => exact p1.elim⟩
theorem simS_aug {i : Nat} {x : Str} {op : Operator} (ho : IpOk P w K mg base S op o) (hN : S.N.Nodup) (hi : S.N[i]? = some x) (hx : Loc S.sc x) (hf : S.fn x = true ∨ S.sc.names.lookup x = some .local) (ha : SimE P w K mg base S a ma) :
    SimS P w K mg base S (.AugAssign (.Name x pos') op a pos) (sAug i o ma) := fun X W hX tk => by
  obtain ⟨r, h1, h2⟩ := ho X hX
  refine PS.imp (ps_aug (i := i) (by rw [← hX.N]; exact hN) (by rw [← hX.N]; exact hi) (by rw [← hX.scope]; exact hx) (ha X W hX tk) h1 (by rw [← hX.scope]; exact hf.imp (hX.fn x) id)) fun D σ H ⟨ρ, st, env, rs, re, h⟩ => ?_
  unfold sAug at h
  split at h
  · exact h.elim
  · rename_i x0 hne he
    obtain ⟨v0, hv0, rv0'⟩ := re.2.1 i x0 he hne
    refine ⟨v0, hv0, ρ, st, env, rs, re, PostS.bind h re fun ρ1 H1 st1 y u _ e1 rs1 ru p1 => ?_⟩
    exact h2 ρ1 H1 st1 x0 y v0 u W σ _ rs1 (rv0'.mono e1) ru (PostS.bind p1 (re.mono e1) fun ρ2 H2 st2 z uz _ e2 rs2 rz p2 => p2 ρ2 H2 _ .refl rs2 (((re.mono e1).mono e2).set rz))
  · exact h.elim
/-- a field's store at an instance of the store -/
theorem RS.putF {l : Nat} {a : Addr} {c : Str} {al : List Str} {fs : List (Str × Val)} {f : Str} {x : Val} {v : V} (rs : RS K mg ρ H st) (ha : ρ[l]? = some a) (ho : st[l]? = some (.ins c al fs)) (hf : al.contains f = true) (rv : RV K mg ρ H x v) :
    ∃ C dx ps, mg c = some (.ref C) ∧ Cls K C ∧ NoAttr K C f ∧ H a = some (.ins C dx ps) ∧ RPs K mg ρ H fs ps ∧ (∀ g ∈ al, NoAttr K C g) ∧ RS K mg ρ (upd H a (.ins C dx (L2.putF f v ps))) (st.set l (.ins c al (putV f x fs))) ∧ Ext ρ H ρ (upd H a (.ins C dx (L2.putF f v ps))) := by
  obtain ⟨C, dx, ps, h1, h2, h3, h4, h5, h6⟩ := rs.at ho ha
  have hm : f ∈ al := List.contains_iff_mem.mp hf
  have ex : Ext ρ H ρ (upd H a (.ins C dx (L2.putF f v ps))) := rs.ext ha
  refine ⟨C, dx, ps, h1, h2, h3 f hm, h4, h5, h3, rs.set ha ⟨C, dx, _, h1, h2, h3, upd_same, (RPs.put rv h5).mono ex, fun p hp => ?_⟩, ex⟩
  rcases mem_putV hp with e | ⟨q, hq, e⟩
  · rw [e]; exact hm
  · rw [← e]; exact h6 q hq
theorem simS_fld {f : Str} (ho : SimE P w K mg base S b mb) (ha : SimE P w K mg base S a ma) (hs : ∀ env, swapsWith a (some (.Attribute b f pos')) pos.line env = pure false) : SimS P w K mg base S (.Assign [.Attribute b f pos'] a pos) (sFldS f mb ma) := fun X W hX tk =>
  PS.imp (ps_fld (ho X W hX tk) (ha X W hX tk) (hs _)) fun D σ H ⟨ρ, st, env, rs, re, h⟩ => ⟨ρ, st, env, rs, re, PostS.bind h re fun ρ1 H1 st1 x v _ e1 rs1 rv p1 =>
    ⟨ρ1, st1, env, rs1, re.mono e1, PostS.bind p1 (re.mono e1) fun ρ2 H2 st2 y u _ e2 rs2 ru p2 => by
      cases y with
      | loc l =>
        rw [RV] at ru
        obtain ⟨p, rfl, hp⟩ := ru
        simp only at p2
        split at p2
        · rename_i c al fs hst
          split at p2
          · rename_i hcond
            obtain ⟨C, dx, ps, h1, h2, h3, h4, h5, h6, h7, h8⟩ := rs2.putF hp hst hcond.1 (rv.mono e2)
            refine ⟨p, C, dx, ps, rfl, h4, by rw [← hX.K]; exact h2, by rw [← hX.K]; exact h3, by rw [h5.length]; exact hcond.2, ?_⟩
            exact p2 ρ2 _ σ h8 h7 (((re.mono e1).mono e2).mono h8)
          · exact p2.elim
        · exact p2.elim
      | _ => exact p2.elim⟩⟩
end
end Sm

/-! The Sim layer, part 4: loops, stores, try, raise. -/
namespace Sm
open PySem L2

/-- what a loop walks: its items, the objects that must stand -/
abbrev Ix := Env → Sto → R (List Val × List (Nat × Ob))
section
variable (K : PySem.W.Frag) (mg : Str → Option Value)
def relI : List Addr → Hp → (List Val × List (Nat × Ob)) → It → Prop := fun ρ H xg J =>
  ∀ ρ' H' st', Ext ρ H ρ' H' → RS K mg ρ' H' st' → (∀ p ∈ xg.2, st'[p.1]? = some p.2) →
    (∀ i, xg.1.length ≤ i → J.stop i H') ∧ ∀ (i : Nat) x, xg.1[i]? = some x → J.go i H' ∧ ∀ v H'', J.yld i H' v H'' → Ext ρ' H' ρ' H'' ∧ RS K mg ρ' H'' st' ∧ RV K mg ρ' H'' x v
def tI (W : WX) (xi : Option XI) (m : Ix) : TI := fun σ H Q => ∃ ρ st env, RS K mg ρ H st ∧ RE K mg ρ H xi env σ ∧ Post K mg (relI K mg) W ρ H σ Q (m env st)
end
section
variable (P : Program) (w : World) (K : PySem.W.Frag) (mg : Str → Option Value) (base : Heap) (S : Sc)
def SimI (tg iter : Expr) (m : Ix) : Prop := ∀ X W, XOk P w K mg base S X → Takes X W → PI X tg iter (tI K mg W S.xi m)
end
theorem PI.imp {X : Cx} {tg e : Expr} {t t' : TI} (h : PI X tg e t) (f : ∀ σ H Q, t' σ H Q → t σ H Q) : PI X tg e t' := ⟨fun pins s σ H R I q => h.run pins s σ H R I (f _ _ _ q)⟩
open Classical in
/-- the turns of a for -/
noncomputable def forL (gd : List (Nat × Ob)) (g : Gx) (b : Sx) : List Val → Env → Sto → SR
  | [], env, st => if ∀ p ∈ gd, st[p.1]? = some p.2 then .nx env st else .stuck
  | x :: r, env, st => if ∀ p ∈ gd, st[p.1]? = some p.2 then onG (g x env) fun env1 => match b env1 st with
    | .nx e s => forL gd g b r e s
    | .ct e s => forL gd g b r e s
    | .bk e s => .nx e s
    | q => q else .stuck
noncomputable def sFor (m : Ix) (g : Gx) (b : Sx) : Sx := fun env st => (m env st).to env fun xg st1 => forL xg.2 g b xg.1 env st1
def whileN (c : Tx) (b : Sx) : Nat → Env → Sto → SR
  | 0, _, _ => .stuck
  | n + 1, env, st => (c env st).to env fun q st1 => if q then (match b env st1 with
    | .nx e s => whileN c b n e s
    | .ct e s => whileN c b n e s
    | .bk e s => .nx e s
    | r => r) else .nx env st1
/-- enough turns for any while here -/
def fuel : Nat := 2 ^ 80
def sWhile (c : Tx) (b : Sx) : Sx := fun env st => whileN c b fuel env st

section
variable {P : Program} {w : World} {K : PySem.W.Frag} {mg : Str → Option Value} {base : Heap} {S : Sc}
variable {e a b c : Expr} {es : List Expr} {st1 : Stmt} {sts body : List Stmt} {ma mb mc : Ex} {ta tb : Tx} {aa ab : Ax} {sa sb : Sx} {pos pos' : Pos} {o o' : Val → Val → Sto → R Val} {ga : Gx} {gs : Gxs} {mi : Ix}
variable {ρ ρ' : List Addr} {H H' : Hp} {W : WX} {σ : L2.St} {st : Sto} {xi : Option XI} {env : Env}

theorem simS_for {tg iter : Expr} {gv : List Nat} (hc : S.calm = true) (hi : SimI P w K mg base S tg iter mi) (hg : SimG P w K mg base S tg gv ga) (hb : SimSs P w K mg base S body sb) (hs : ∀ env x, foldedSetIterable iter env x = pure x) :
    SimS P w K mg base S (.For tg iter body [] pos) (sFor mi ga sb) := fun X W hX tk => by
  refine PS.imp (ps_for hX.passes (by rw [← hX.calm]; exact hc) (hi X W hX tk) (hg X hX) (hb X W hX tk) (hs _)) fun D σ H ⟨ρ, st, env, rs, re, h⟩ => ?_
  refine ⟨ρ, st, env, rs, re, PostS.bind h re fun ρ1 H1 st1 xg J _ e1 rs1 rI p1 => ?_⟩
  have re1 := re.mono e1
  refine ⟨fun i m σ' H' => ∃ ρ' st' env', Ext ρ1 H1 ρ' H' ∧ RS K mg ρ' H' st' ∧ RE K mg ρ' H' S.xi env' σ' ∧ m = xg.1.length - i ∧ i ≤ xg.1.length ∧ PostS K mg W S.xi ρ' H' D (forL xg.2 ga sb (xg.1.drop i) env' st'),
    ⟨xg.1.length, ρ1, st1, env, .refl, rs1, re1, by simp, by simp, by simpa using p1⟩, ?_⟩
  rintro i m σ' H' ⟨ρ', st', env', e', rs', re', rfl, hi, p'⟩
  by_cases hlt : i < xg.1.length
  · right
    have hx : xg.1[i]? = some xg.1[i] := List.getElem?_eq_getElem hlt
    rw [List.drop_eq_getElem_cons hlt] at p'
    unfold forL at p'
    split at p'
    · rename_i hgd
      obtain ⟨h1, h2⟩ := (rI ρ' H' st' e' rs' hgd).2 i _ hx
      refine ⟨h1, fun σ2 H2 => ∃ ρ2 st2 env2, Ext ρ1 H1 ρ2 H2 ∧ RS K mg ρ2 H2 st2 ∧ RE K mg ρ2 H2 S.xi env2 σ2 ∧ PostS K mg W S.xi ρ2 H2 D (forL xg.2 ga sb (xg.1.drop (i + 1)) env2 st2), ?_, fun v H'' hy => ?_⟩
      · rintro σ2 H2 ⟨ρ2, st2, env2, e2, rs2, re2, p2⟩
        exact ⟨xg.1.length - (i + 1), by omega, ρ2, st2, env2, e2, rs2, re2, rfl, by omega, p2⟩
      · obtain ⟨f1, f2, f3⟩ := h2 v H'' hy
        refine ⟨ρ', st', env', xg.1[i], f2, re'.mono f1, f3, ?_⟩
        cases q : ga xg.1[i] env' with
        | none => rw [q] at p'; exact p'.elim
        | some env1 =>
          rw [q] at p'
          simp only [onG_some] at p'
          refine fun ρ2 H2 σ2 e2 rs2 re2 _ => ⟨ρ2, st', env1, rs2, re2, ?_⟩
          have ee := f1.trans e2
          cases q2 : sb env1 st' with
          | nx e3 s3 => rw [q2] at p'; exact fun ρ3 H3 σ3 e4 rs3 re3 => ⟨ρ3, s3, e3, (e'.trans ee).trans e4, rs3, re3, PostS.mono p' (ee.trans e4)⟩
          | ct e3 s3 => rw [q2] at p'; exact fun ρ3 H3 σ3 e4 rs3 re3 => ⟨ρ3, s3, e3, (e'.trans ee).trans e4, rs3, re3, PostS.mono p' (ee.trans e4)⟩
          | bk e3 s3 => rw [q2] at p'; exact PostS.mono (r := .nx e3 s3) p' ee
          | rt v3 s3 => rw [q2] at p'; exact PostS.mono (r := .rt v3 s3) p' ee
          | er x3 e3 s3 => rw [q2] at p'; exact PostS.mono (r := .er x3 e3 s3) p' ee
          | stuck => rw [q2] at p'; exact p'.elim
    · exact p'.elim
  · left
    rw [List.drop_eq_nil_of_le (by omega)] at p'
    unfold forL at p'
    split at p'
    · rename_i hgd
      exact ⟨(rI ρ' H' st' e' rs' hgd).1 i (by omega), p' ρ' H' σ' .refl rs' re'⟩
    · exact p'.elim
theorem simS_while {c : Expr} (hc : SimT P w K mg base S c ta) (hb : SimSs P w K mg base S body sb) : SimS P w K mg base S (.While c body [] pos) (sWhile ta sb) := fun X W hX tk => by
  refine PS.imp (ps_while hX.passes (hc X W hX tk) (hb X W hX tk)) fun D σ H ⟨ρ, st, env, rs, re, h⟩ => ?_
  refine ⟨fun m σ' H' => ∃ ρ' st' env', RS K mg ρ' H' st' ∧ RE K mg ρ' H' S.xi env' σ' ∧ PostS K mg W S.xi ρ' H' D (whileN ta sb m env' st'), ⟨fuel, ρ, st, env, rs, re, h⟩, ?_⟩
  rintro m σ' H' ⟨ρ', st', env', rs', re', p'⟩
  cases m with
  | zero => exact p'.elim
  | succ m =>
    unfold whileN at p'
    refine ⟨ρ', st', env', rs', re', PostS.bind p' re' fun ρ1 H1 st1 x v _ e1 rs1 rv p1 => ?_⟩
    cases rv
    cases x with
    | false => rw [if_neg (by simp)]; exact p1 ρ1 H1 σ' .refl rs1 (re'.mono e1)
    | true =>
      rw [if_pos rfl]
      refine ⟨fun σ2 H2 => ∃ ρ2 st2 env2, RS K mg ρ2 H2 st2 ∧ RE K mg ρ2 H2 S.xi env2 σ2 ∧ PostS K mg W S.xi ρ2 H2 D (whileN ta sb m env2 st2), fun σ2 H2 h2 => ⟨m, Nat.lt_succ_self m, h2⟩, ρ1, st1, env', rs1, re'.mono e1, ?_⟩
      rw [if_pos rfl] at p1
      cases q2 : sb env' st1 with
      | nx e3 s3 => rw [q2] at p1; exact fun ρ3 H3 σ3 e4 rs3 re3 => ⟨ρ3, s3, e3, rs3, re3, PostS.mono p1 e4⟩
      | ct e3 s3 => rw [q2] at p1; exact fun ρ3 H3 σ3 e4 rs3 re3 => ⟨ρ3, s3, e3, rs3, re3, PostS.mono p1 e4⟩
      | bk e3 s3 => rw [q2] at p1; exact p1
      | rt v3 s3 => rw [q2] at p1; exact p1
      | er x3 e3 s3 => rw [q2] at p1; exact p1
      | stuck => rw [q2] at p1; exact p1.elim

/-! ### what is walked -/
/-- a list of the store, a tuple, the script -/
def iSeq (a : Ex) : Ix := fun env st => (a env st).bind fun x st1 => match x with
  | .tup xs => .ok (xs, []) st1
  | .kt xs => .ok (xs, []) st1
  | .scr ns => .ok (ns.map Val.int, []) st1
  | .loc l => match st1[l]? with
    | some (.lst xs) => .ok (xs, [(l, .lst xs)]) st1
    | _ => .stuck
  | _ => .stuck
/-- the two walks joined -/
theorem PI.or {X : Cx} {tg it : Expr} {t u : TI} (h1 : PI X tg it t) (h2 : PI X tg it u) : PI X tg it (fun σ H R => t σ H R ∨ u σ H R) := ⟨fun pins s σ H R I h => h.elim (h1.run pins s σ H R I) (h2.run pins s σ H R I)⟩
theorem relI_lst {l : Nat} {a : Addr} {xs : List Val} (ha : ρ[l]? = some a) : relI K mg ρ H (xs, [(l, .lst xs)]) (Itl K a) := fun ρ' H' st' e rs g => by
  obtain ⟨vs, h1, h2⟩ := rs.at (g (l, .lst xs) (by simp)) (e.at ha)
  refine ⟨fun i hi => ⟨vs, SqL.of h1, by rw [h2.length]; exact hi⟩, fun i x hx => ?_⟩
  obtain ⟨v, hv, rv⟩ := h2.get hx
  refine ⟨⟨vs, v, SqL.of h1, hv⟩, ?_⟩
  rintro v' H'' ⟨rfl, hy⟩
  have := hy vs (SqL.of h1)
  rw [hv] at this
  cases this
  exact ⟨.refl, rs, rv⟩
theorem relI_scr {a : Addr} {ns : List Int} (ha : SqF K H a (ns.map V.int)) : relI K mg ρ H (ns.map Val.int, []) (Itl K a) := fun ρ' H' st' e rs g => by
  have h1 := (e.sqF ha).sq
  refine ⟨fun i hi => ⟨_, h1, by simpa using hi⟩, fun i x hx => ?_⟩
  obtain ⟨v, hv, rv⟩ := (RVs.ints (K := K) (mg := mg) (ρ := ρ') (H := H') (ns := ns)).get hx
  refine ⟨⟨_, v, h1, hv⟩, ?_⟩
  rintro v' H'' ⟨rfl, hy⟩
  have := hy _ h1
  rw [hv] at this
  cases this
  exact ⟨.refl, rs, rv⟩
theorem relI_tup {a : Addr} {vs : List V} {xs : List Val} (hT : SqT K H a vs) (hv : RVs K mg ρ H xs vs) : relI K mg ρ H (xs, []) (Itt K a) := fun ρ' H' st' e rs g => by
  have h1 := e.sqT hT
  have h2 := hv.mono e
  refine ⟨fun i hi => ⟨vs, h1, by rw [h2.length]; exact hi⟩, fun i x hx => ?_⟩
  obtain ⟨v, hv, rv⟩ := h2.get hx
  refine ⟨⟨vs, v, h1, hv⟩, ?_⟩
  rintro v' H'' ⟨rfl, hy⟩
  have := hy vs h1
  rw [hv] at this
  cases this
  exact ⟨.refl, rs, rv⟩
/-- where an expression's value is known ahead -/
theorem tE_ok {ma : Ex} {Q : VK} {x : Val} {st2 : Sto} (rs : RS K mg ρ H st) (re : RE K mg ρ H xi env σ) (hm : ma env st = .ok x st2)
    (h : ∀ ρ1 H1 v, Ext ρ H ρ1 H1 → RS K mg ρ1 H1 st2 → RV K mg ρ1 H1 x v → Q v H1) : tE K mg W xi ma σ H Q := ⟨ρ, st, env, rs, re, by rw [hm]; exact h⟩
theorem simI_seq {tg : Expr} (ha : SimE P w K mg base S a ma) : SimI P w K mg base S tg a (iSeq ma) := fun X W hX tk =>
  PI.imp (PI.or (pi_list (ha X W hX tk)) (pi_tup (ha X W hX tk))) fun σ H R ⟨ρ, st, env, rs, re, h⟩ => by
    unfold iSeq at h
    have eK := hX.K
    subst eK
    cases q : ma env st with
    | stuck => rw [q] at h; exact h.elim
    | err x st2 => rw [q] at h; exact .inl ⟨ρ, st, env, rs, re, by rw [q]; exact h⟩
    | ok x st2 =>
      rw [q] at h
      cases x with
      | tup xs =>
        refine .inr (tE_ok rs re q fun ρ1 H1 v e1 rs1 rv => ?_)
        obtain ⟨a, vs, rfl, h1, h2⟩ := rv.seqT (.inl rfl)
        exact ⟨a, rfl, ⟨vs, h1⟩, h ρ1 H1 _ e1 rs1 (relI_tup h1 h2)⟩
      | kt xs =>
        refine .inr (tE_ok rs re q fun ρ1 H1 v e1 rs1 rv => ?_)
        obtain ⟨a, vs, rfl, h1, h2⟩ := rv.seqT (.inr rfl)
        exact ⟨a, rfl, ⟨vs, h1⟩, h ρ1 H1 _ e1 rs1 (relI_tup h1 h2)⟩
      | scr ns =>
        refine .inl (tE_ok rs re q fun ρ1 H1 v e1 rs1 rv => ?_)
        rw [RV] at rv
        obtain ⟨a, rfl, h1⟩ := rv
        exact ⟨a, rfl, ⟨_, h1.sq⟩, h ρ1 H1 _ e1 rs1 (relI_scr h1)⟩
      | loc l =>
        refine .inl (tE_ok rs re q fun ρ1 H1 v e1 rs1 rv => ?_)
        rw [RV] at rv
        obtain ⟨a, rfl, h1⟩ := rv
        have h' : Post _ mg (relI _ mg) W ρ H σ R (match st2[l]? with | some (.lst xs) => .ok (xs, [(l, .lst xs)]) st2 | _ => .stuck) := h
        split at h'
        · rename_i xs hst
          obtain ⟨vs, h2, h3⟩ := rs1.at hst h1
          exact ⟨a, rfl, ⟨vs, SqL.of h2⟩, h' ρ1 H1 _ e1 rs1 (relI_lst h1)⟩
        · exact h'.elim
      | _ => exact h.elim
/-- range(n), range(a, b) -/
def iRange1 (a : Ex) : Ix := fun env st => (a env st).bind fun x st1 => match x with
  | .int j => if -(2 ^ 62) ≤ j ∧ j < 2 ^ 62 then .ok ((List.range j.toNat).map fun (i : Nat) => Val.int (i : Int), []) st1 else .stuck
  | _ => .stuck
def iRange2 (a b : Ex) : Ix := fun env st => (a env st).bind fun x st1 => (b env st1).bind fun y st2 => match x, y with
  | .int i, .int j => if -(2 ^ 62) ≤ i ∧ i < 2 ^ 62 ∧ -(2 ^ 62) ≤ j ∧ j < 2 ^ 62 then .ok ((List.range (j - i).toNat).map fun (k : Nat) => Val.int (i + (k : Int)), []) st2 else .stuck
  | _, _ => .stuck
theorem relI_range {lo : Int} {n : Nat} {f : Nat → Val} (hf : ∀ k, f k = .int (lo + (k : Int))) : relI K mg ρ H ((List.range n).map f, []) (Itr lo n) := fun ρ' H' st' e rs g => by
  refine ⟨fun i hi => (show n ≤ i by simpa using hi), fun i x hx => ?_⟩
  have hi : i < n := by
    have := (List.getElem?_eq_some_iff.mp hx).1
    simpa using this
  refine ⟨hi, ?_⟩
  rintro v H'' ⟨rfl, rfl⟩
  rw [List.getElem?_map, List.getElem?_range hi] at hx
  cases hx
  rw [hf]
  exact ⟨.refl, rs, by rw [RV]⟩
theorem simI_range1 {tg : Expr} {p : Pos} (hg : S.sc.names.lookup ("range" : Str) = some .globalImplicit) (hm : mg "range" = none) (ha : SimE P w K mg base S a ma) (hs : ∀ env, starEach [a] env = [(false, eval a env)]) : SimI P w K mg base S tg (.Call (.Name "range" p) [a] [] pos) (iRange1 ma) := fun X W hX tk =>
  PI.imp (pi_range1 (show X.env.scope.names.lookup ("range" : Str) = _ by rw [← hX.scope]; exact hg) (by rw [← hX.mg]; exact hm) (pa_cons (ha X W hX tk) pa_nil (hs _)) (hs _)) fun σ H R ⟨ρ, st, env, rs, re, h⟩ => ⟨ρ, st, env, rs, re, Post.bind h fun ρ1 H1 st1 x v _ e1 rs1 rv p1 => by
    cases x with
    | int j =>
      rw [RV] at rv
      subst rv
      simp only at p1
      split at p1
      · rename_i hj
        exact ⟨j, rfl, hj.1, hj.2, p1 ρ1 H1 _ .refl rs1 (relI_range (lo := 0) fun k => by simp)⟩
      · exact p1.elim
    | _ => exact p1.elim⟩
theorem simI_range2 {tg : Expr} {p : Pos} (hg : S.sc.names.lookup ("range" : Str) = some .globalImplicit) (hm : mg "range" = none) (ha : SimE P w K mg base S a ma) (hb : SimE P w K mg base S b mb) (hs : ∀ env, starEach [a, b] env = [(false, eval a env), (false, eval b env)]) (hs2 : ∀ env, starEach [b] env = [(false, eval b env)]) :
    SimI P w K mg base S tg (.Call (.Name "range" p) [a, b] [] pos) (iRange2 ma mb) := fun X W hX tk =>
  PI.imp (pi_range2 (show X.env.scope.names.lookup ("range" : Str) = _ by rw [← hX.scope]; exact hg) (by rw [← hX.mg]; exact hm) (pa_cons (ha X W hX tk) (pa_cons (hb X W hX tk) pa_nil (hs2 _)) (by rw [hs, hs2])) (hs _) (hs2 _)) fun σ H R ⟨ρ, st, env, rs, re, h⟩ => ⟨ρ, st, env, rs, re, Post.bind h fun ρ1 H1 st1 x v _ e1 rs1 rv p1 =>
    ⟨ρ1, st1, env, rs1, re.mono e1, Post.bind p1 fun ρ2 H2 st2 y u _ e2 rs2 ru p2 => by
      have rv2 := rv.mono e2
      cases x with
      | int i =>
        cases y with
        | int j =>
          rw [RV] at rv2 ru
          subst rv2 ru
          simp only at p2
          split at p2
          · rename_i hj
            exact ⟨i, j, rfl, hj, p2 ρ2 H2 _ .refl rs2 (relI_range fun k => rfl)⟩
          · exact p2.elim
        | _ => exact p2.elim
      | _ => exact p2.elim⟩⟩
end
end Sm

/-! The Sim layer: enumerate of a tuple, by turns. -/
namespace PySem
open PyProof.Rows
theorem sm_enumerate_newT {v : Value} {o : Obj} {H : Heap → Prop} (B : Begins v o H) :
    Meets (Builtin.«enumerate.__new__» ⟨[.type "enumerate", v], []⟩) (fun _ R s => H s.heap ∧
      R (.ok (.ret (.ref (s.heap.push o).objs.size))) { s with heap := (s.heap.push o).push { cls := .type "enumerate", data := .fields #[.none, .bool false, .ref s.heap.objs.size, rawInt 0, .none, .none] } }) :=
  .of_wp fun prog w A R s h => by
    obtain ⟨hp, g, d, tk, os⟩ := s; obtain ⟨h1, h⟩ := h
    have hsub := sub_enumerate
    have q1 : ∀ {A' : Around} {E : Value → Shared → Prop} {Q : Value → Shared → Prop}, Q (.ref hp.objs.size) ⟨hp.push o, g, d, tk, os⟩ → wpAny (model prog w) A' (pyIter v) Q E ⟨hp, g, d, tk, os⟩ :=
      fun q => B.iter prog w _ _ ⟨hp, g, d, tk, os⟩ _ h1 q
    wp_walk using q1
    refine wpAny_stack_any fun st => wpAny_pure ?_
    split
    · rename_i c _ _ _ _ _
      cases (c == Value.type "enumerate")
      · wp_walk using q1
        exact ⟨_, rfl, h⟩
      · wp_walk using q1
        exact ⟨_, rfl, h⟩
    · wp_walk using q1
      exact ⟨_, rfl, h⟩
section
variable {prog : Program} {w : World} {A : Around} {E : Value → Shared → Prop} {s : Shared}
theorem sm_call_enumerate {v : Value} {o : Obj} {H : Heap → Prop} {Q : Value → Shared → Prop} (B : Begins v o H) (h1 : H s.heap)
    (h : ∀ h', IsEnum h' (s.heap.objs.size + 1) s.heap.objs.size 0 .none → h'.get? s.heap.objs.size = some o → h'.objs.size = s.heap.objs.size + 2 →
      (∀ b o, s.heap.get? b = some o → h'.get? b = some o) → Q (.ref (s.heap.objs.size + 1)) { s with heap := h' }) :
    wpAny (model prog w) A (call (.type "enumerate") [v]) Q E s := by
  refine callType_new F.called_enumerate (by decide) (F.typeCall_enumerate_1 _) (F.newCall_enumerate_1 _) (fun obj => F.args_object_init_2 obj _) F.entry_enumerate_new
    (sm_enumerate_newT B) ⟨h1, ?_⟩
  have hz : (s.heap.push o).objs.size = s.heap.objs.size + 1 := Heap.size_push ..
  show _ ∧ _
  rw [hz]
  have he : IsEnum ((s.heap.push o).push { cls := .type "enumerate", data := .fields #[.none, .bool false, .ref s.heap.objs.size, rawInt 0, .none, .none] }) (s.heap.objs.size + 1) s.heap.objs.size 0 .none := by
    have := Heap.get?_push_size (s.heap.push o) (o := { cls := .type "enumerate", data := .fields #[.none, .bool false, .ref s.heap.objs.size, rawInt 0, .none, .none] }) rfl
    rw [hz] at this; exact this
  exact ⟨⟨_, he, rfl⟩, h _ he (Heap.get?_push_of_some _ (Heap.get?_push_size _ B.free)) (by rw [Heap.size_push, hz]) fun b o x => Heap.get?_push_of_some _ (Heap.get?_push_of_some _ x)⟩
end
end PySem
namespace Sm
open PySem L2 PyProof.Rows
/-- the tuple at a, each item in a new pair -/
def IteT (K : PySem.W.Frag) (a : Addr) : It :=
  ⟨fun i H => ∃ (xs : List V) (x : V), SqT K H a xs ∧ xs[i]? = some x, fun i H v H' => ∃ T x, v = .ref T ∧ H T = none ∧ H' = upd H T (.tup [.int (i : Nat), x]) ∧ ∀ xs, SqT K H a xs → xs[i]? = some x, fun i H => ∃ xs : List V, SqT K H a xs ∧ xs.length ≤ i⟩
theorem turn_enumT {P : Program} {w : World} {K : PySem.W.Frag} {elts : List Expr} {kk : Nat} {tpos : Pos} (a e it : Addr) :
    Turn P w K (.Tuple elts kk tpos) (IteT K a) [e, it] e (fun i h => (∃ old, IsEnum h e it ((i : Nat) : Int) old) ∧ h.IsTupleIter it a i ∧ e ≠ it) where
  mem := by simp
  obj := fun i h st b hb => by
    obtain ⟨⟨old, he⟩, ⟨o, ho, hc, hd⟩, _⟩ := st
    have e' : b = e ∨ b = it := by simpa using hb
    rcases e' with z | z
    · rw [z]; exact ⟨_, he, fun v q => nomatch q⟩
    · rw [z]; exact ⟨o, ho, fun v q => by rw [hd] at q; cases q⟩
  keep := fun i h h' st k => let ⟨⟨old, he⟩, hi, hne⟩ := st; ⟨⟨old, k e (by simp) _ he⟩, hi.at fun o q => k it (by simp) o q, hne⟩
  item := by
    intro X hP hw hK hc i pins s σ H E I hf st hg
    subst hP hw hK
    obtain ⟨⟨old, he⟩, hit, hne⟩ := st
    obtain ⟨xs, x, hq, hx⟩ := hg
    obtain ⟨its, rv, p, hz⟩ := I.tuple hq
    obtain ⟨u, hu, ru⟩ := rv.get hx
    have hel : e < s.heap.objs.size := Heap.lt_size he
    have hil : it < s.heap.objs.size := by obtain ⟨_, q, _⟩ := hit; exact Heap.lt_size q
    have hT : s.heap.IsTuple a its.toArray := p
    have hat : a ≠ it := fun z => by
      obtain ⟨oT, h1, h2, _⟩ := id hT
      obtain ⟨oI, g1, g2, _⟩ := id hit
      rw [z, g1] at h1; cases h1; exact absurd (g2.symm.trans h2) (by decide)
    have hae : a ≠ e := fun z => by
      obtain ⟨oT, h1, h2, _⟩ := id hT
      have g1 := he
      rw [z] at h1
      rw [show s.heap.get? e = some _ from g1] at h1; cases h1; exact absurd (show Value.type "enumerate" = Value.type "tuple" from h2) (by decide)
    have hlen : i < its.toArray.size := by
      have := (List.getElem?_eq_some_iff.mp hu).1
      simpa using this
    have hI : Around.handled X.A = none := I.ok.hd hc
    refine wpAny_pyNext_enum_itemD (Draws.tuple (prog := X.prog) (w := X.w) (A := X.A.in1) hI it a hat its.toArray) he ⟨hit, hT⟩ hlen hne (by simp [hne, Ne.symm hae]) fun x' h' tk hx' ho hit' hT' hsz hk => ?_
    have hxu : x' = u := by
      have := hx'
      simp at this
      rw [hu] at this
      exact (Option.some.inj this).symm
    subst hxu
    refine ⟨_, rfl, wpAny_letOwnedTupleGo_enum (s := { s with heap := h', toks := tk + 1 }) ho fun h'' he' sb => ?_⟩
    have hT2 : h''.get? s.heap.objs.size = some { cls := .type "tuple", data := .seq #[.int i tk, x'] } := (sb.2 _ (Nat.ne_of_gt hel)).trans hT'
    have new : ObjOk X.prog X.w (upd H s.heap.objs.size (.tup [.int (i : Nat), x])) h'' s.heap.objs.size (.tup [.int (i : Nat), x]) :=
      ⟨by show 2 ≤ sizeLine; decide, [.int i tk, x'], .cons ⟨_, rfl⟩ (.cons ru .nil), ⟨_, hT2, rfl, _, rfl⟩⟩
    have I1 : Inv X pins σ (upd H s.heap.objs.size (.tup [.int (i : Nat), x])) { s with heap := h'', toks := tk + 1 } :=
      I.turnedNew (ch := [e, it]) (fun b ob hb q => (sb.2 b (fun z => hb (by simp [z]))).trans (hk b ob (fun z => hb (by simp [z])) (fun z => hb (by simp [z])) q)) hf (Nat.le_refl _) new
    refine ⟨.ref s.heap.objs.size, _, I1, rfl, ⟨_, x, rfl, I.hok.fresh (Nat.le_refl _), rfl, fun ys hy => by rw [I.tuple_inj hy hq]; exact hx⟩, ⟨⟨x', ?_⟩, hit'.1.at fun o q => (sb.2 it (Ne.symm hne)).trans q, hne⟩, fun b hb => ?_⟩
    · have e1 : ((i + 1 : Nat) : Int) = (i : Int) + 1 := by omega
      rw [e1]; exact he'
    · have hb' : b < s.heap.objs.size := by
        have e' : b = e ∨ b = it := by simpa using hb
        rcases e' with z | z
        · rw [z]; exact hel
        · rw [z]; exact hil
      rw [upd_ne (Nat.ne_of_lt hb')]
      exact (hf b hb).1
  done := by
    intro X hP hw hK hc i pins s σ H E I hf st hg
    subst hP hw hK
    obtain ⟨⟨old, he⟩, hit, hne⟩ := st
    obtain ⟨xs, hq, hx⟩ := hg
    obtain ⟨its, rv, p, hz⟩ := I.tuple hq
    obtain ⟨f0, f1, f2, f3, f4, f5⟩ := hf it (by simp)
    have hl := rv.length
    have hT : s.heap.IsTuple a its.toArray := p
    have hat : a ≠ it := fun z => by
      obtain ⟨oT, h1, h2, _⟩ := id hT
      obtain ⟨oI, g1, g2, _⟩ := id hit
      rw [z, g1] at h1; cases h1; exact absurd (g2.symm.trans h2) (by decide)
    have hI : Around.handled X.A = none := I.ok.hd hc
    have D : Draws X.prog X.w X.A.in1 it [it, a] i (fun _ _ => False) (fun j h => j = i ∧ h.IsTupleIter it a i ∧ h.IsTuple a its.toArray) :=
      { live := fun _ _ st => (let ⟨o, ho, _⟩ := st.2.1; ⟨o, ho⟩)
        frame := fun _ _ _ st hk => ⟨st.1, st.2.1.at fun o e => hk it (by simp) o e, st.2.2.at fun o e => hk a (by simp) o e⟩
        item := fun j s Q E hj st => absurd st.1 (Nat.ne_of_lt hj)
        done := fun s Q E st hE => wpAny_nextOf_tuple_end hI st.2.1 st.2.2 (by simp; omega) hE }
    exact wpAny_pyNext_enum_endD D he ⟨rfl, hit, hT⟩ fun h' eb => ⟨rfl, I.turned (t' := s.toks) (fun b o hb q => eb b o hb q) f0 f1 f3 f4 f5⟩
  self := fun A i s Q E st h => let ⟨⟨_, he⟩, _⟩ := st; wpAny_pyIter_enum he h
def iEnumT (K : PySem.W.Frag) (ta : TA) : TI := fun σ H R => ta σ H fun vs H1 => ∃ a xs, vs = [.ref a] ∧ SqT K H1 a xs ∧ R (IteT K a) H1
theorem pi_enumT {X : Cx} {e : Expr} {ta : TA} {p pos tpos : Pos} {elts : List Expr} {kk : Nat} (hg : Gl X "enumerate") (hm : X.mg "enumerate" = none) (ha : PA X [e] ta) (hs : starEach [e] X.env = [(false, eval e X.env)] := by rfl) :
    PI X (.Tuple elts kk tpos) (.Call (.Name "enumerate" p) [e] [] pos) (iEnumT X.K ta) := by
  refine ⟨fun pins s σ H R I h => ?_⟩
  refine Call_ (ld_blt I hg hm boot_enumerate (PyProof.Rows.callWith_type1 (thn (ha.run pos pins s σ H _ I h) fun us s1 ⟨vs, H1, I1, r1, q1⟩ => ?_) hs rfl))
  obtain ⟨a, xs, ex, hq, q⟩ := q1
  subst ex
  cases r1 with
  | cons r rr =>
    cases rr
    cases r
    obtain ⟨its, rv, p', hz⟩ := I1.tuple hq
    have hT : s1.heap.IsTuple a its.toArray := p'
    refine sm_call_enumerate (begins_tuple a its.toArray) hT fun h' he ho hsz hk => wpAny_pyIter_enum he ?_
    have I2 : Inv X pins σ H1 { s1 with heap := h' } := I1.kept (t' := s1.toks) hk
    refine ⟨s1.heap.objs.size + 1, [s1.heap.objs.size + 1, s1.heap.objs.size], _, _, H1, rfl, I2, turn_enumT a (s1.heap.objs.size + 1) s1.heap.objs.size, ⟨⟨.none, he⟩, ⟨_, ho, rfl, rfl⟩, Nat.succ_ne_self _⟩, fun b hb => ?_, q⟩
    have e' : b = s1.heap.objs.size + 1 ∨ b = s1.heap.objs.size := by simpa using hb
    have hle : s1.heap.objs.size ≤ b := by
      rcases e' with z | z
      · rw [z]; exact Nat.le_add_right _ _
      · rw [z]; exact Nat.le_refl _
    exact I1.fpOk hle (I1.hok.fresh hle)
/-- enumerate(e), the target a tuple -/
def enumV (xs : List Val) : List Val := (List.range xs.length).map fun (i : Nat) => Val.tup [.int (i : Int), xs.getD i .non]
def iEnum' (a : Ex) : Ix := fun env st => (a env st).bind fun x st1 => match x with
  | .tup xs => .ok (enumV xs, []) st1
  | .kt xs => .ok (enumV xs, []) st1
  | .loc l => match st1[l]? with
    | some (.lst xs) => .ok (enumV xs, [(l, .lst xs)]) st1
    | _ => .stuck
  | _ => .stuck
section
variable {P : Program} {w : World} {K : PySem.W.Frag} {mg : Str → Option Value} {base : Heap} {S : Sc}
variable {a : Expr} {ma : Ex} {pos : Pos}
variable {ρ ρ' : List Addr} {H H' : Hp} {W : WX} {σ : L2.St} {st : Sto} {xi : Option XI} {env : Sm.Env}
theorem enumV_get {xs : List Val} {i : Nat} {x : Val} (h : (enumV xs)[i]? = some x) : ∃ y, xs[i]? = some y ∧ x = .tup [.int (i : Int), y] := by
  unfold enumV at h
  have hi : i < xs.length := by
    have := (List.getElem?_eq_some_iff.mp h).1
    simpa using this
  rw [List.getElem?_map, List.getElem?_range hi] at h
  refine ⟨xs[i], List.getElem?_eq_getElem hi, ?_⟩
  have := Option.some.inj h
  rw [← this]
  show Val.tup [Val.int (i : Int), xs.getD i .non] = Val.tup [Val.int (i : Int), xs[i]]
  rw [List.getD_eq_getElem?_getD, List.getElem?_eq_getElem hi]
  rfl
theorem relI_pair {p : Addr} {x v : V} {i : Int} {y : Val} (rs : RS K mg ρ H st) (hp : H p = none) (rv : RV K mg ρ H y x) :
    Ext ρ H ρ (upd H p (.tup [.int i, x])) ∧ RS K mg ρ (upd H p (.tup [.int i, x])) st ∧ RV K mg ρ (upd H p (.tup [.int i, x])) (.tup [.int i, y]) (.ref p) := by
  refine ⟨.new hp, rs.new hp, ?_⟩
  rw [RV]
  exact ⟨p, _, rfl, upd_same, .cons (by rw [RV]) (.cons (rv.mono (.new hp)) .nil)⟩
theorem relI_enumT {a : Addr} {vs : List V} {xs : List Val} (hT : SqT K H a vs) (hv : RVs K mg ρ H xs vs) : relI K mg ρ H (enumV xs, []) (IteT K a) := fun ρ' H' st' e rs g => by
  have h1 := e.sqT hT
  have h2 := hv.mono e
  refine ⟨fun i hi => ⟨vs, h1, by rw [h2.length]; simpa [enumV] using hi⟩, fun i x hx => ?_⟩
  obtain ⟨y, hy, rfl⟩ := enumV_get hx
  obtain ⟨v, hv, rv⟩ := h2.get hy
  refine ⟨⟨vs, v, h1, hv⟩, ?_⟩
  rintro v' H'' ⟨T, x', rfl, hT, rfl, hz⟩
  have := hz vs h1
  rw [hv] at this
  cases this
  exact relI_pair (v := v) rs hT rv
theorem relI_enumL {l : Nat} {a : Addr} {xs : List Val} (ha : ρ[l]? = some a) : relI K mg ρ H (enumV xs, [(l, .lst xs)]) (Ite K a) := fun ρ' H' st' e rs g => by
  obtain ⟨vs, h1, h2⟩ := rs.at (g (l, .lst xs) (by simp)) (e.at ha)
  refine ⟨fun i hi => ⟨vs, SqL.of h1, by rw [h2.length]; simpa [enumV] using hi⟩, fun i x hx => ?_⟩
  obtain ⟨y, hy, rfl⟩ := enumV_get hx
  obtain ⟨v, hv, rv⟩ := h2.get hy
  refine ⟨⟨vs, v, SqL.of h1, hv⟩, ?_⟩
  rintro v' H'' ⟨T, x', rfl, hT, rfl, hz⟩
  have := hz vs (SqL.of h1)
  rw [hv] at this
  cases this
  exact relI_pair (v := v) rs hT rv
theorem simI_enum {elts : List Expr} {kk : Nat} {p tpos : Pos} (hg : S.sc.names.lookup ("enumerate" : Str) = some .globalImplicit) (hm : mg "enumerate" = none) (ha : SimE P w K mg base S a ma) (hs : ∀ env, starEach [a] env = [(false, eval a env)]) :
    SimI P w K mg base S (.Tuple elts kk tpos) (.Call (.Name "enumerate" p) [a] [] pos) (iEnum' ma) := fun X W hX tk => by
  have hgl : Gl X "enumerate" := (show X.env.scope.names.lookup ("enumerate" : Str) = _ by rw [← hX.scope]; exact hg)
  have hml : X.mg "enumerate" = none := by rw [← hX.mg]; exact hm
  refine PI.imp (PI.or (pi_enum hgl hml (pa_cons (ha X W hX tk) pa_nil (hs _)) (hs _)) (pi_enumT hgl hml (pa_cons (ha X W hX tk) pa_nil (hs _)) (hs _))) fun σ H R ⟨ρ, st, env, rs, re, h⟩ => ?_
  unfold iEnum' at h
  have eK := hX.K
  subst eK
  cases q : ma env st with
  | stuck => rw [q] at h; exact h.elim
  | err x st2 => rw [q] at h; exact .inl ⟨ρ, st, env, rs, re, by rw [q]; exact h⟩
  | ok x st2 =>
    rw [q] at h
    cases x with
    | tup xs =>
      refine .inr (tE_ok rs re q fun ρ1 H1 v e1 rs1 rv => ?_)
      obtain ⟨a, vs, rfl, h1, h2⟩ := rv.seqT (.inl rfl)
      exact ⟨a, vs, rfl, h1, h ρ1 H1 _ e1 rs1 (relI_enumT h1 h2)⟩
    | kt xs =>
      refine .inr (tE_ok rs re q fun ρ1 H1 v e1 rs1 rv => ?_)
      obtain ⟨a, vs, rfl, h1, h2⟩ := rv.seqT (.inr rfl)
      exact ⟨a, vs, rfl, h1, h ρ1 H1 _ e1 rs1 (relI_enumT h1 h2)⟩
    | loc l =>
      refine .inl (tE_ok rs re q fun ρ1 H1 v e1 rs1 rv => ?_)
      rw [RV] at rv
      obtain ⟨a, rfl, h1⟩ := rv
      have h' : Post _ mg (relI _ mg) W ρ H σ R (match st2[l]? with | some (.lst xs) => .ok (enumV xs, [(l, .lst xs)]) st2 | _ => .stuck) := h
      split at h'
      · rename_i xs hst
        obtain ⟨vs, h2, h3⟩ := rs1.at hst h1
        exact ⟨a, vs, rfl, SqL.of h2, h' ρ1 H1 _ e1 rs1 (relI_enumL h1)⟩
      · exact h'.elim
    | _ => exact h.elim
end
end Sm

/-! The Sim layer, part 5: defs and their calls, methods, instances made; try and raise. -/
namespace Sm
open PySem L2

section
variable (K : PySem.W.Frag) (mg : Str → Option Value)
/-- the promise of a def with n parameters: it comes to what m tells -/
def spM (n : Nat) (m : Fx) : Sp := fun vs H Q E => ∃ ρ st xs, RS K mg ρ H st ∧ RVs K mg ρ H xs vs ∧ xs.length = n ∧ PostE K mg (fun cls d _ H' => E cls d H') ρ H [] Q (m xs st)
end
/-- a def's body as a function -/
def runB (n : Nat) (b : Sx) : Fx := fun xs st => match b (xs.map some ++ List.replicate (n - xs.length) none) st with
  | .nx _ st' => .ok .non st'
  | .rt v st' => .ok v st'
  | .er x _ st' => .err x st'
  | _ => .stuck
/-- what a def's promise must be called with -/
structure FnM (P : Program) (w : World) (K : PySem.W.Frag) (mg : Str → Option Value) (base : Heap) (k : Nat) (f : Addr) (fd : FuncData) (ps : List Str) (m : Fx) : Prop where
  run : ∀ (A : Around) (outer : List PySem.Env) (s : Shared) (H : Hp) (args : Args) (us : List Value) (vs : List V) (Q : VK) (E : XK), A.guards = some [] → Room k A → Env0 P w K mg base A outer s H → BindsTo s fd args (ps.zip us) → Vals vs us →
    spM K mg ps.length m vs H Q E → codeAny (model P w) A (.call (.ref f) args) (CR (L2.CX P w) outer P w H s Q E) s

section
variable {P : Program} {w : World} {K : PySem.W.Frag} {mg : Str → Option Value} {base : Heap} {S : Sc}
variable {e a b c : Expr} {es : List Expr} {st1 : Stmt} {sts body : List Stmt} {ma mb mc : Ex} {ta tb : Tx} {aa ab : Ax} {sa sb : Sx} {pos pos' : Pos} {o o' : Val → Val → Sto → R Val} {ga : Gx} {gs : Gxs} {mi : Ix}
variable {ρ ρ' : List Addr} {H H' : Hp} {W : WX} {σ : L2.St} {st : Sto} {xi : Option XI} {env : Env}

theorem RE.start {N : List Str} {xs : List Val} {vs : List V} (h : RVs K mg ρ H xs vs) : RE K mg ρ H none (xs.map some ++ List.replicate (N.length - xs.length) none) (L2.start N vs) := by
  have hl := h.length
  refine ⟨by simp [L2.start, hl], fun j x hj _ => ?_, fun ξ c fs h1 _ => by cases h1⟩
  have hjl : j < xs.length := by
    by_cases hjl : j < xs.length
    · exact hjl
    · rw [List.getElem?_append_right (by simpa using hjl), List.getElem?_replicate] at hj
      split at hj <;> cases hj
  rw [List.getElem?_append_left (by simpa using hjl), List.getElem?_map] at hj
  cases q : xs[j]? with
  | none => rw [q] at hj; cases hj
  | some y =>
    rw [q] at hj
    cases hj
    obtain ⟨v, h1, h2⟩ := h.get q
    refine ⟨v, ?_, h2⟩
    unfold L2.start
    rw [List.getElem?_append_left (by simpa [hl] using hjl), List.getElem?_map, h1]
    rfl
/-- THE RULE of a def: its body as it stands comes to what the combinators tell -/
theorem fn_sim {name qual : Str} {params : Arguments} {body : List Stmt} {scope : Scope} {f : Addr} {dV kV doc pm cdv ct oc : Value} {an od : Option Addr} {osl : Array (Option Value)} {N ps : List Str} {k : Nat} {b : Sx}
    (lk : K.lookup f = some ⟨oc, od, .func (PySem.W.fnOf name qual params body scope dV kV doc pm an cdv ct), osl⟩) (hcd : PySem.W.codeIn K cdv qual = true) (F' : FnScope N ps scope)
    (h : SimSs P w K mg base { N := N, sc := scope, k := k } body b) : FnM P w K mg base (k + 1) f (PySem.W.fnOf name qual params body scope dV kV doc pm an cdv ct) ps (runB N.length b) := by
  refine ⟨fun A outer s H args us vs Q E hgd hr e0 hb r hsp => ?_⟩
  obtain ⟨ρ, st, xs, rs, rv, hn, hp⟩ := hsp
  have hl : vs.length = ps.length := by rw [rv.length]; exact hn
  have KX : K.In s.heap := e0.mod.kin.keeps fun b o e => (e0.bs b o e).1
  have lim : s.heap.NoLimit := e0.mod.nolimit.keeps fun b o e => (e0.bs b o e).1
  have hkind : ∀ y ∈ ps.zip us, (scope).names.lookup y.1 = some .local ∨ ((scope).names.lookup y.1 = some .cell ∧ ((cellsFrom (s.heap.objs.size + 1) (scope).names []).lookup y.1).isSome = true) := fun y hy =>
    (F'.par y.1 (List.of_mem_zip hy).1).imp id fun q => ⟨q, PySem.W.cellsFrom_some _ _ _ (.inl q)⟩
  refine codeAny_call_function hr.depth (KX _ _ lk) rfl F'.co F'.gen rfl (PySem.W.codeRec_of KX hcd) (hb _ _ _ _ ?_)
  refine wpAny_newFunctionEnv_cells F'.kind hkind fun env he s1 x => ?_
  subst he
  refine ⟨lim.keeps x.toInCall.keep, codeAny_func ?_⟩
  have I := inv_start (CX := L2.CX P w) (E := E) (f := f) F' hr.hd e0 hl r x
  refine wpAny_mono ((h (cxOf (L2.CX P w) P w K mg base N qual (scope) f cdv A outer s H E) (fun cls d _ H' => E cls d H') ?_ (takes_of rfl rfl rfl rfl)).run [] s1 (L2.start N vs) H { nx := fun _ H' => Q .non H', rt := Q } I ⟨ρ, st, _, rs, RE.start rv, ?_⟩) (fun fl s' hs => ?_) fun e s' hs => hs
  · exact ⟨rfl, rfl, rfl, rfl, rfl, rfl, rfl, rfl, fun _ => hr.deeper _, fun _ => ⟨rfl, rfl⟩, fun _ _ => rfl, passes_of rfl, hgd, fun ξ hξ => by cases hξ⟩
  · unfold runB at hp
    cases q : b (xs.map some ++ List.replicate (N.length - xs.length) none) st with
    | nx e s => rw [q] at hp; exact fun ρ' H' σ' e' rs' re' => hp ρ' H' .non e' rs' (by rw [RV])
    | rt v s => rw [q] at hp; exact hp
    | er x e s => rw [q] at hp; exact fun ρ' H' σ' cls d e' rs' re' rx => hp ρ' H' cls d e' rs' rx
    | bk e s => rw [q] at hp; exact hp.elim
    | ct e s => rw [q] at hp; exact hp.elim
    | stuck => rw [q] at hp; exact hp.elim
  · cases fl with
    | ret u =>
      obtain ⟨v, σ', H', J, rv, q⟩ := hs
      exact ⟨v, H', J.os, J.bare, J.base, J.hok, rv, q⟩
    | next =>
      obtain ⟨σ', H', J, q⟩ := hs
      exact ⟨V.non, H', J.os, J.bare, J.base, J.hok, rfl, q⟩
    | brk =>
      obtain ⟨_, _, _, q⟩ := hs
      exact False.elim q
    | cont =>
      obtain ⟨_, _, _, q⟩ := hs
      exact False.elim q

/-- the callee runs, its exceptions as wished at the slots σ -/
theorem run_simM {X : Cx} {k : Nat} {f : Addr} {fd : FuncData} {ps : List Str} {m : Fx} {pins : List (Addr × Obj)} {s : Shared} {Q : VK} {us : List Value} {args : Args} {xs : List Val} {vs : List V} (F : FnM X.prog X.w X.K X.mg X.base k f fd ps m) (hgd : X.A.guards = some []) (hr : Room k X.A) (tk : Takes X W)
    (hb : BindsTo s fd args (ps.zip us)) (I : Inv X pins σ H s) (r : Vals vs us) (rs : RS X.K X.mg ρ H st) (rv : RVs X.K X.mg ρ H xs vs) (hn : xs.length = ps.length) (h : PostE X.K X.mg W ρ H σ Q (m xs st)) :
    codeAny (model X.prog X.w) X.A (.call (.ref f) args) (fun r s' => match r with | .ok (.ret u) => EP X pins σ Q u s' | .ok _ => False | .error e => X.xe e s') s := by
  refine codeAny_mono (F.run X.A X.stack s H args us vs Q (fun cls d H' => W cls d σ H') hgd hr I.env0 hb r ⟨ρ, st, xs, rs, rv, hn, ?_⟩) fun r s' hq => ?_
  · cases q : m xs st with
    | ok v s => rw [q] at h; exact h
    | err x s => rw [q] at h; exact h
    | stuck => rw [q] at h; exact h.elim
  · cases r with
    | error e => exact tk e s' (XE.of_call I (fun _ _ _ h => h) hq)
    | ok fl =>
      cases fl with
      | ret u => exact I.after hq
      | next => exact False.elim hq
      | brk => exact False.elim hq
      | cont => exact False.elim hq

/-! ### arguments, by place and by keywords -/
/-- the arguments of a call evaluated: n by place, the rest by the keywords ks -/
def CA (X : Cx) (es : List Expr) (kws : List Keyword) (n : Nat) (ks : List Str) (t : TA) : Prop :=
  ∀ (pos : Pos) (f : Value) (first : List Value) (pins : List (Addr × Obj)) (s : Shared) (σ : L2.St) (H : Hp) (G : List V → Hp → Prop) (Qf : Value → Shared → Prop), PySem.W.keepIn X.K f = true → Inv X pins σ H s → t σ H G →
    (∀ s' us ws vs H', Inv X pins σ H' s' → Vals vs (us ++ ws) → us.length = n → ws.length = ks.length → G vs H' → wpAny (model X.prog X.w) X.A (call f (first ++ us) (ks.zip ws)) Qf X.xe s') →
    wpAny (model X.prog X.w) X.A (callWith pos f first (backTo pos (starEach es X.env)) (backToKw pos (keywordEach kws X.env))) Qf X.xe s
theorem ca_pos {X : Cx} {t : TA} (ha : PA X (e :: es) t) (hl : ∀ σ H Q, t σ H Q → t σ H fun vs H' => vs.length = (e :: es).length ∧ Q vs H')
    (he : starEach (e :: es) X.env = (false, eval e X.env) :: starEach es X.env) (hpl : ∀ pos, (backTo pos (starEach es X.env)).any (·.1) = false) : CA X (e :: es) [] (es.length + 1) [] t := fun pos f first pins s σ H G Qf hk I h k => by
  refine PySem.W.callWith_K (h₀ := X.base) I.ok.mod.kin hk (thn (ha.run pos pins s σ H _ I (hl _ _ _ h)) fun us s1 ⟨vs, H1, I1, r, l, q⟩ => ⟨I1.kIn, ?_⟩) he (hpl pos)
  exact k s1 us [] vs H1 I1 (by rw [List.append_nil]; exact r) (by rw [← r.length]; exact l) rfl q
theorem ca_nil {X : Cx} : CA X [] [] 0 [] tNil := fun pos f first pins s σ H G Qf hk I h k =>
  PySem.W.callWith_K0 I.kIn hk (k s [] [] [] H I .nil rfl rfl h)
theorem ca_kw {X : Cx} {t tk : TA} {kws : List Keyword} {ks : List Str} (ha : PA X (e :: es) t) (hl : ∀ σ H Q, t σ H Q → t σ H fun vs H' => vs.length = (e :: es).length ∧ Q vs H') (hkw : PK X kws tk) (hl2 : ∀ σ H Q, tk σ H Q → tk σ H fun vs H' => vs.length = ks.length ∧ Q vs H')
    (he : starEach (e :: es) X.env = (false, eval e X.env) :: starEach es X.env) (hall : ∀ pos, (backToKw pos (keywordEach kws X.env)).all (·.1.isSome) = true) (hks : ∀ pos, (backToKw pos (keywordEach kws X.env)).filterMap (·.1) = ks)
    (hpl : ∀ pos, ((backTo pos (starEach (e :: es) X.env)).any (·.1) || (backToKw pos (keywordEach kws X.env)).any (·.1.isNone)) = false) : CA X (e :: es) kws (es.length + 1) ks (fun σ H Q => t σ H fun vs H1 => tk σ H1 fun zs H2 => Q (vs ++ zs) H2) := fun pos f first pins s σ H G Qf hk I h k => by
  refine PySem.W.callWith_KW (h₀ := X.base) I.ok.mod.kin hk (hall pos) (thn (ha.run pos pins s σ H _ I (hl _ _ _ h)) fun us s1 ⟨vs, H1, I1, r, l, q⟩ => ?_) (hpl pos) he
  refine thn (hkw.run pos pins s1 σ H1 _ I1 (hl2 _ _ _ q)) fun ws s2 ⟨zs, H2, I2, rz, l2, q2⟩ => ⟨I2.kIn, ?_⟩
  rw [hks]
  exact k s2 us ws (vs ++ zs) H2 I2 (r.append rz) (by rw [← r.length]; exact l) (by rw [← rz.length]; exact l2) q2
theorem ca_kw0 {X : Cx} {tk : TA} {kws : List Keyword} {ks : List Str} (hkw : PK X kws tk) (hl2 : ∀ σ H Q, tk σ H Q → tk σ H fun vs H' => vs.length = ks.length ∧ Q vs H')
    (hall : ∀ pos, (backToKw pos (keywordEach kws X.env)).all (·.1.isSome) = true) (hks : ∀ pos, (backToKw pos (keywordEach kws X.env)).filterMap (·.1) = ks)
    (hpl : ∀ pos, ((backTo pos (starEach [] X.env)).any (·.1) || (backToKw pos (keywordEach kws X.env)).any (·.1.isNone)) = false) : CA X [] kws 0 ks tk := fun pos f first pins s σ H G Qf hk I h k => by
  refine PySem.W.callWith_KW0 (h₀ := X.base) I.ok.mod.kin hk (hall pos) (thn (hkw.run pos pins s σ H _ I (hl2 _ _ _ h)) fun ws s2 ⟨zs, H2, I2, rz, l2, q2⟩ => ⟨I2.kIn, ?_⟩) (hpl pos)
  rw [hks]
  exact k s2 [] ws zs H2 I2 rz rfl (by rw [← rz.length]; exact l2) q2
end

section
variable (P : Program) (w : World) (K : PySem.W.Frag) (mg : Str → Option Value) (base : Heap) (S : Sc)
def SimC (es : List Expr) (kws : List Keyword) (n : Nat) (ks : List Str) (m : Ax) : Prop := ∀ X W, XOk P w K mg base S X → Takes X W → CA X es kws n ks (tA K mg W S.xi m)
def SimK (kws : List Keyword) (m : Ax) : Prop := ∀ X W, XOk P w K mg base S X → Takes X W → PK X kws (tA K mg W S.xi m)
/-- as many values as told -/
def ALen (m : Ax) (n : Nat) : Prop := ∀ env st xs st', m env st = .ok xs st' → xs.length = n
end
theorem aLen_nil : ALen aNil 0 := fun env st xs st' h => by
  unfold aNil at h; cases h; rfl
theorem aLen_cons {a : Ex} {r : Ax} {n : Nat} (h : ALen r n) : ALen (aCons a r) (n + 1) := fun env st xs st' q => by
  unfold aCons at q
  cases qa : a env st with
  | ok x s =>
    rw [qa] at q
    simp only [R.bind_ok] at q
    cases qr : r env s with
    | ok ys s2 =>
      rw [qr] at q
      simp only [R.bind_ok] at q
      cases q
      simp [h _ _ _ _ qr]
    | err _ _ => rw [qr] at q; cases q
    | stuck => rw [qr] at q; cases q
  | err _ _ => rw [qa] at q; cases q
  | stuck => rw [qa] at q; cases q
def aApp (a b : Ax) : Ax := fun env st => (a env st).bind fun xs st1 => (b env st1).bind fun ys st2 => .ok (xs ++ ys) st2
section
variable {P : Program} {w : World} {K : PySem.W.Frag} {mg : Str → Option Value} {base : Heap} {S : Sc}
variable {e a b c : Expr} {es : List Expr} {ma mb mc : Ex} {aa ab : Ax} {pos pos' : Pos}
variable {ρ ρ' : List Addr} {H H' : Hp} {W : WX} {σ : L2.St} {st : Sto} {xi : Option XI} {env : Env}
theorem tA_len {n : Nat} {Q : List V → Hp → Prop} (hl : ALen aa n) (h : tA K mg W xi aa σ H Q) : tA K mg W xi aa σ H fun vs H' => vs.length = n ∧ Q vs H' := by
  obtain ⟨ρ, st, env, rs, re, h⟩ := h
  refine ⟨ρ, st, env, rs, re, ?_⟩
  cases q : aa env st with
  | ok xs s => rw [q] at h; exact fun ρ' H' vs e r rv => ⟨by rw [rv.length]; exact hl _ _ _ _ q, h ρ' H' vs e r rv⟩
  | err x s => rw [q] at h; exact h
  | stuck => rw [q] at h; exact h
theorem simK_nil : SimK P w K mg base S [] aNil := fun X W hX tk => ⟨fun pos pins s σ H Q I ⟨ρ, st, env, rs, re, h⟩ => pk_nil.run pos pins s σ H Q I (h ρ H [] .refl rs .nil)⟩
theorem simK_cons {nm : Option Str} {kpos : Pos} {kws : List Keyword} (ha : SimE P w K mg base S a ma) (hr : SimK P w K mg base S kws ab) : SimK P w K mg base S (⟨nm, a, kpos⟩ :: kws) (aCons ma ab) := fun X W hX tk =>
  ⟨fun pos pins s σ H Q I ⟨ρ, st, env, rs, re, h⟩ => (pk_cons (ha X W hX tk) (hr X W hX tk)).run pos pins s σ H Q I ⟨ρ, st, env, rs, re, Post.bind h fun ρ1 H1 st1 x v _ e1 rs1 rv p1 =>
    ⟨ρ1, st1, env, rs1, re.mono e1, Post.bind p1 fun ρ2 H2 st2 xs vs _ e2 rs2 rvs p2 => p2 ρ2 H2 (v :: vs) .refl rs2 (.cons (rv.mono e2) rvs)⟩⟩⟩
theorem simC_pos (ha : SimA P w K mg base S (e :: es) aa) (hl : ALen aa (es.length + 1)) (he : ∀ env, starEach (e :: es) env = (false, eval e env) :: starEach es env) (hpl : ∀ pos env, (backTo pos (starEach es env)).any (·.1) = false) : SimC P w K mg base S (e :: es) [] (es.length + 1) [] aa := fun X W hX tk =>
  ca_pos (ha X W hX tk) (fun _ _ _ h => tA_len hl h) (he _) fun pos => hpl pos _
theorem simC_nil : SimC P w K mg base S [] [] 0 [] aNil := fun X W hX tk pos f first pins s σ H G Qf hk I ⟨ρ, st, env, rs, re, h⟩ k => ca_nil pos f first pins s σ H G Qf hk I (h ρ H [] .refl rs .nil) k
theorem simC_kw {kws : List Keyword} {ks : List Str} (ha : SimA P w K mg base S (e :: es) aa) (hl : ALen aa (es.length + 1)) (hk : SimK P w K mg base S kws ab) (hl2 : ALen ab ks.length) (he : ∀ env, starEach (e :: es) env = (false, eval e env) :: starEach es env)
    (hall : ∀ pos env, (backToKw pos (keywordEach kws env)).all (·.1.isSome) = true) (hks : ∀ pos env, (backToKw pos (keywordEach kws env)).filterMap (·.1) = ks)
    (hpl : ∀ pos env, ((backTo pos (starEach (e :: es) env)).any (·.1) || (backToKw pos (keywordEach kws env)).any (·.1.isNone)) = false) : SimC P w K mg base S (e :: es) kws (es.length + 1) ks (aApp aa ab) := fun X W hX tk pos f first pins s σ H G Qf hkk I ⟨ρ, st, env, rs, re, h⟩ k =>
  ca_kw (ha X W hX tk) (fun _ _ _ h => tA_len hl h) (hk X W hX tk) (fun _ _ _ h => tA_len hl2 h) (he _) (fun pos => hall pos _) (fun pos => hks pos _) (fun pos => hpl pos _) pos f first pins s σ H G Qf hkk I
    ⟨ρ, st, env, rs, re, Post.bind h fun ρ1 H1 st1 xs vs _ e1 rs1 rv p1 => ⟨ρ1, st1, env, rs1, re.mono e1, Post.bind p1 fun ρ2 H2 st2 ys zs _ e2 rs2 rz p2 => p2 ρ2 H2 _ .refl rs2 ((rv.mono e2).append rz)⟩⟩ k
theorem simC_kw0 {kws : List Keyword} {ks : List Str} (hk : SimK P w K mg base S kws ab) (hl2 : ALen ab ks.length)
    (hall : ∀ pos env, (backToKw pos (keywordEach kws env)).all (·.1.isSome) = true) (hks : ∀ pos env, (backToKw pos (keywordEach kws env)).filterMap (·.1) = ks)
    (hpl : ∀ pos env, ((backTo pos (starEach [] env)).any (·.1) || (backToKw pos (keywordEach kws env)).any (·.1.isNone)) = false) : SimC P w K mg base S [] kws 0 ks ab := fun X W hX tk =>
  ca_kw0 (hk X W hX tk) (fun _ _ _ h => tA_len hl2 h) (fun pos => hall pos _) (fun pos => hks pos _) (fun pos => hpl pos _)

/-! ### how parameters find their values -/
/-- a parameter's value: the i-th one that is written, or the j-th default -/
def arr {α : Type} (z : α) (ord : List (Nat ⊕ Nat)) (xs ds : List α) : List α := ord.map fun p => match p with
  | .inl i => xs.getD i z
  | .inr j => ds.getD j z
theorem RVs.getD {xs : List Val} {vs : List V} (h : RVs K mg ρ H xs vs) (i : Nat) : RV K mg ρ H (xs.getD i .non) (vs.getD i .non) := by
  rw [List.getD_eq_getElem?_getD, List.getD_eq_getElem?_getD]
  cases q : xs[i]? with
  | some x =>
    obtain ⟨v, h1, h2⟩ := h.get q
    rw [h1]; exact h2
  | none =>
    have hl : vs.length ≤ i := by rw [h.length]; exact List.getElem?_eq_none_iff.mp q
    rw [List.getElem?_eq_none hl]
    show RV K mg ρ H .non .non
    rw [RV]
theorem RVs.arr (ord : List (Nat ⊕ Nat)) {xs ds : List Val} {vs es : List V} (h : RVs K mg ρ H xs vs) (h2 : RVs K mg ρ H ds es) : RVs K mg ρ H (arr .non ord xs ds) (arr .non ord vs es) := by
  induction ord with
  | nil => exact .nil
  | cons p r ih =>
    refine .cons ?_ ih
    cases p with
    | inl i => exact h.getD i
    | inr j => exact h2.getD j
theorem Vals.getD' {vs : List V} {us : List Value} (h : Vals vs us) (i : Nat) : RelV (vs.getD i .non) (us.getD i .none) := by
  rw [List.getD_eq_getElem?_getD, List.getD_eq_getElem?_getD]
  cases q : vs[i]? with
  | some x =>
    obtain ⟨v, h1, h2⟩ := h.get q
    rw [h1]; exact h2
  | none => rw [h.none_of q]; rfl
theorem Vals.arr (ord : List (Nat ⊕ Nat)) {vs es : List V} {us ds : List Value} (h : Vals vs us) (h2 : Vals es ds) : Vals (Sm.arr .non ord vs es) (Sm.arr .none ord us ds) := by
  induction ord with
  | nil => exact .nil
  | cons p r ih =>
    refine .cons ?_ ih
    cases p with
    | inl i => exact Vals.getD' h i
    | inr j => exact Vals.getD' h2 j
/-- the arguments n, ks of a call of the def fd reach the parameters ps in the order ord, with the defaults dvs -/
def BindsM (K : PySem.W.Frag) (mg : Str → Option Value) (fd : FuncData) (ps : List Str) (n : Nat) (ks : List Str) (ord : List (Nat ⊕ Nat)) (dvs : List Val) : Prop :=
  ord.length = ps.length ∧ ∃ (ds : List Value) (dv : List V), Vals dv ds ∧ (∀ ρ H, RVs K mg ρ H dvs dv) ∧ ∀ (s : Shared) (us ws : List Value), K.In s.heap → us.length = n → ws.length = ks.length → BindsTo s fd ⟨us, ks.zip ws⟩ (ps.zip (arr .none ord (us ++ ws) ds))
/-- f(..) -/
def eCallF (m : Fx) (ord : List (Nat ⊕ Nat)) (dvs : List Val) (aa : Ax) : Ex := fun env st => (aa env st).bind fun xs st1 => m (arr .non ord xs dvs) st1
theorem simE_callF {k n : Nat} {f : Addr} {fd : FuncData} {ps ks : List Str} {m : Fx} {x : Str} {p : Pos} {ord : List (Nat ⊕ Nat)} {dvs : List Val} {kws : List Keyword} (hc : S.calm = true) (F : FnM P w K mg base k f fd ps m) (hk : k ≤ S.k) (hg : S.sc.names.lookup x = some .globalImplicit) (hm : mg x = some (.ref f)) (hkp : PySem.W.keepIn K (.ref f) = true)
    (hb : BindsM K mg fd ps n ks ord dvs) (ha : SimC P w K mg base S es kws n ks aa) (hdb : (x == ("__debug__" : Str)) = false := by decide) :
    SimE P w K mg base S (.Call (.Name x p) es kws pos) (eCallF m ord dvs aa) := fun X W hX tk => by
  obtain ⟨rfl, rfl, rfl, rfl, rfl, hN, hsc, hcm, hrm, htp, hfn, hps, hgd, hsu⟩ := hX
  have hX : XOk X.prog X.w X.K X.mg X.base S X := ⟨rfl, rfl, rfl, rfl, rfl, hN, hsc, hcm, hrm, htp, hfn, hps, hgd, hsu⟩
  refine ⟨fun pins s σ H Q I h => ?_⟩
  obtain ⟨hol, ds, dv, hv, hd, hbb⟩ := hb
  refine wpAny_Call_Name_kw (ld_glob I (show X.env.scope.names.lookup x = _ by rw [← hsc]; exact hg) hm ?_ hdb)
  refine ha X W hX tk pos (.ref f) [] pins s σ H (fun vs H1 => ∃ ρ1 st1 xs, RS X.K X.mg ρ1 H1 st1 ∧ RVs X.K X.mg ρ1 H1 xs vs ∧ PostE X.K X.mg W ρ1 H1 σ Q (m (arr .non ord xs dvs) st1)) _ hkp I (by
    obtain ⟨ρ, st, env, rs, re, h⟩ := h
    exact ⟨ρ, st, env, rs, re, Post.bind h fun ρ1 H1 st1 xs vs hok e1 rs1 rvs p1 => ⟨ρ1, st1, xs, rs1, rvs, p1⟩⟩) fun s1 us ws vs H1 I1 r l1 l2 ⟨ρ1, st1, xs, rs1, rvs, p1⟩ => ?_
  refine wpAny_call (codeAny_mono (run_simM (us := arr .none ord (us ++ ws) ds) (vs := arr .non ord vs dv) (xs := arr .non ord xs dvs) F hgd ((hrm hc).mono hk) tk (hbb s1 us ws I1.kIn l1 l2) I1 (Vals.arr ord r hv) rs1 (rvs.arr ord (hd _ _)) (by simp [arr, hol]) p1) fun r s' hq => ?_)
  cases r with
  | error e => exact hq
  | ok fl => cases fl <;> exact hq
end
end Sm

/-! The Sim layer, part 6: methods, instances made, fields read. -/
namespace Sm
open PySem L2
/-- a method as it is called: what it comes to, its parameters' values (the receiver is the first that is written), its defaults -/
structure MI where
  m : Fx
  ord : List (Nat ⊕ Nat)
  dvs : List Val
def eMeth (tbl : List (Str × MI)) (x : Str) (o : Ex) (aa : Ax) : Ex := fun env st => (o env st).bind fun y st1 => match y with
  | .loc l => match st1[l]? with
    | some (.ins c al _) => match tbl.lookup c with
      | some mi => if al.contains x then .stuck else (aa env st1).bind fun xs st2 => mi.m (arr .non mi.ord (.loc l :: xs) mi.dvs) st2
      | none => .stuck
    | _ => .stuck
  | _ => .stuck
def eMake (c : Str) (al : List Str) (mi : MI) (aa : Ax) : Ex := fun env st => (aa env st).bind fun xs st1 => (mi.m (arr .non mi.ord (.loc st1.length :: xs) mi.dvs) (st1 ++ [.ins c al []])).bind fun v st2 => match v with
  | .non => .ok (.loc st1.length) st2
  | _ => .stuck
def eFld (f : Str) (o : Ex) : Ex := fun env st => (o env st).bind fun y st1 => match y with
  | .loc l => match st1[l]? with
    | some (.ins _ _ fs) => match fs.lookup f with
      | some v => .ok v st1
      | none => .stuck
    | _ => .stuck
  | _ => .stuck
section
variable {P : Program} {w : World} {K : PySem.W.Frag} {mg : Str → Option Value} {base : Heap} {S : Sc}
variable {e a b c : Expr} {es : List Expr} {ma mb mc : Ex} {aa ab : Ax} {pos pos' : Pos}
variable {ρ ρ' : List Addr} {H H' : Hp} {W : WX} {σ : L2.St} {st : Sto} {xi : Option XI} {env : Env}
theorem lookup_mem {α : Type} {k : Str} {v : α} : ∀ {l : List (Str × α)}, l.lookup k = some v → ∃ k', k' = k ∧ (k', v) ∈ l
  | [], h => by simp at h
  | (k', y) :: r, h => by
    rw [List.lookup_cons] at h
    cases q : k == k' with
    | true => rw [q] at h; cases h; exact ⟨k', (beq_iff_eq.mp q).symm, List.mem_cons_self⟩
    | false =>
      rw [q] at h
      obtain ⟨k2, e, m⟩ := lookup_mem h
      exact ⟨k2, e, List.mem_cons_of_mem _ m⟩
theorem simE_fld {f : Str} (ha : SimE P w K mg base S a ma) (hb : ∀ env, attributeBase a f env (eval a env) = eval a env) : SimE P w K mg base S (.Attribute a f pos) (eFld f ma) := fun X W hX tk =>
  PE.imp (pe_fld (ha X W hX tk) (hb _)) fun σ H Q ⟨ρ, st, env, rs, re, h⟩ => ⟨ρ, st, env, rs, re, Post.bind h fun ρ1 H1 st1 x v _ e1 rs1 rv p1 => by
    cases x with
    | loc l =>
      rw [RV] at rv
      obtain ⟨p, rfl, hp⟩ := rv
      simp only at p1
      split at p1
      · rename_i c al fs hst
        split at p1
        · rename_i y hy
          obtain ⟨C, dx, ps, h1, h2, h3, h4, h5, h6⟩ := rs1.at hst hp
          obtain ⟨u, hu, ru⟩ := h5.lookup hy
          have hm : f ∈ al := by
            obtain ⟨k', e, hl⟩ := lookup_mem hy
            rw [← e]
            exact h6 _ hl
          exact ⟨p, C, dx, ps, u, rfl, h4, by rw [← hX.K]; exact h2, by rw [← hX.K]; exact h3 f hm, hu, p1 ρ1 H1 u .refl rs1 ru⟩
        · exact p1.elim
      · exact p1.elim
    | _ => exact p1.elim⟩
/-- what the class c gives as the method x, called with n values and the keywords ks -/
structure MthOk (P : Program) (w : World) (K : PySem.W.Frag) (mg : Str → Option Value) (base : Heap) (k : Nat) (c x : Str) (n : Nat) (ks : List Str) (mi : MI) : Prop where
  ok : ∃ (j : Nat) (f : Addr) (fd : FuncData) (ps : List Str), j ≤ k ∧ (∀ C, mg c = some (.ref C) → Meth K C x f) ∧ FnM P w K mg base j f fd ps mi.m ∧ BindsM K mg fd ps (n + 1) ks mi.ord mi.dvs
theorem simE_meth {x : Str} {apos : Pos} {n : Nat} {ks : List Str} {kws : List Keyword} {tbl : List (Str × MI)} {pl : PySem.Env → Sem Bool} (hc : S.calm = true) (ho : SimE P w K mg base S a ma) (ht : ∀ p ∈ tbl, MthOk P w K mg base S.k p.1 x n ks p.2) (ha : SimC P w K mg base S es kws n ks aa)
    (hs : ∀ env, eval (.Call (.Attribute a x apos) es kws pos) env = (do
      let ov ← eval a env
      standAt apos.atName
      let (f, first) ← holding [ov] (getMethod ov x (pl env))
      callWith pos f first (backTo pos (starEach es env)) (backToKw pos (keywordEach kws env)))) :
    SimE P w K mg base S (.Call (.Attribute a x apos) es kws pos) (eMeth tbl x ma aa) := fun X W hX tk => by
  obtain ⟨rfl, rfl, rfl, rfl, rfl, hN, hsc, hcm, hrm, htp, hfn, hps, hgd, hsu⟩ := hX
  have hX : XOk X.prog X.w X.K X.mg X.base S X := ⟨rfl, rfl, rfl, rfl, rfl, hN, hsc, hcm, hrm, htp, hfn, hps, hgd, hsu⟩
  refine ⟨fun pins s σ H Q I ⟨ρ, st, env, rs, re, h⟩ => ?_⟩
  have ho' := (ho X W hX tk).run pins s σ H (fun v H1 => ∃ ρ1 st1 l c al fs mi, Ext ρ H ρ1 H1 ∧ RS X.K X.mg ρ1 H1 st1 ∧ RV X.K X.mg ρ1 H1 (.loc l) v ∧ st1[l]? = some (.ins c al fs) ∧ tbl.lookup c = some mi ∧ al.contains x = false ∧
      PostE X.K X.mg W ρ1 H1 σ Q ((aa env st1).bind fun xs st2 => mi.m (arr .non mi.ord (.loc l :: xs) mi.dvs) st2)) I ⟨ρ, st, env, rs, re, Post.bind h fun ρ1 H1 st1 y v _ e1 rs1 rv p1 => by
    cases y with
    | loc l =>
      simp only at p1
      split at p1
      · rename_i c al fs hst
        split at p1
        · rename_i mi hmi
          split at p1
          · exact p1.elim
          · rename_i hal
            exact ⟨ρ1, st1, l, c, al, fs, mi, e1, rs1, rv, hst, hmi, by simpa using hal, p1⟩
        · exact p1.elim
      · exact p1.elim
    | _ => exact p1.elim⟩
  refine PySem.W.methodCall_KW (pl := pl X.env) (thn ho' fun u s1 ⟨v, H1, I1, rx, ρ1, st1, l, c, al, fs, mi, e1, rs1, rv, hst, hmi, hal, p1⟩ => ?_) (hs _)
  rw [RV] at rv
  obtain ⟨p, rfl, hp⟩ := rv
  obtain rfl : u = Value.ref p := rx
  obtain ⟨C, dx, ps, h1, h2, h3, h4, h5, h6⟩ := rs1.at hst hp
  obtain ⟨c', e', hmem⟩ := lookup_mem hmi
  obtain ⟨j, f, fd, pps, hj, hM, F, hb⟩ := (ht _ hmem).ok
  simp only at hM
  subst e'
  have hmeth := hM C h1
  have hno : ps.lookup x = none := by
    refine h5.lookup_none ?_
    cases q : fs.lookup x with
    | none => rfl
    | some y =>
      obtain ⟨k', e, hl⟩ := lookup_mem q
      have hin := h6 _ hl
      rw [← e] at hal
      have hal' := List.contains_iff_mem.mpr hin
      simp only at hal'
      rw [hal'] at hal
      cases hal
  refine getmeth_ok I1 h4 h2 hmeth hno ?_
  obtain ⟨hol, ds, dv, hv, hd, hbb⟩ := hb
  refine ha X W hX tk pos (.ref f) [.ref p] pins s1 σ H1 (fun vs H2 => ∃ ρ2 st2 xs, RS X.K X.mg ρ2 H2 st2 ∧ RVs X.K X.mg ρ2 H2 (.loc l :: xs) (.ref p :: vs) ∧ PostE X.K X.mg W ρ2 H2 σ Q (mi.m (arr .non mi.ord (.loc l :: xs) mi.dvs) st2)) _ hmeth.kp I1
    ⟨ρ1, st1, env, rs1, re.mono e1, Post.bind p1 fun ρ2 H2 st2 xs vs hok e2 rs2 rvs p2 => ⟨ρ2, st2, xs, rs2, .cons (by rw [RV]; exact ⟨p, rfl, e2.at hp⟩) rvs, p2⟩⟩ fun s2 us ws vs H2 I2 r l1 l2 ⟨ρ2, st2, xs, rs2, rvs, p2⟩ => ?_
  have r' : Vals (.ref p :: vs) ((.ref p :: us) ++ ws) := .cons rfl r
  refine wpAny_call (codeAny_mono (run_simM (us := arr .none mi.ord ((.ref p :: us) ++ ws) ds) (vs := arr .non mi.ord (.ref p :: vs) dv) (xs := arr .non mi.ord (.loc l :: xs) mi.dvs) F hgd ((hrm hc).mono hj) tk (hbb s2 (.ref p :: us) ws I2.kIn (by simp [l1]) l2) I2 (Vals.arr mi.ord r' hv) rs2 (rvs.arr mi.ord (hd _ _)) (by simp [arr, hol]) p2) fun r s' hq => ?_)
  cases r with
  | error e => exact hq
  | ok fl => cases fl <;> exact hq
/-- C(..) -/
theorem simE_make {k n : Nat} {f C : Addr} {fd : FuncData} {ps ks : List Str} {x : Str} {p : Pos} {mi : MI} {al : List Str} {kws : List Keyword} (hc : S.calm = true) (M : Mk K C f) (hcl : Cls K C) (hal : ∀ g ∈ al, NoAttr K C g) (F : FnM P w K mg base k f fd ps mi.m) (hk : k + 1 ≤ S.k) (hg : S.sc.names.lookup x = some .globalImplicit) (hm : mg x = some (.ref C))
    (hb : BindsM K mg fd ps (n + 1) ks mi.ord mi.dvs) (ha : SimC P w K mg base S es kws n ks aa) (hdb : (x == ("__debug__" : Str)) = false := by decide) :
    SimE P w K mg base S (.Call (.Name x p) es kws pos) (eMake x al mi aa) := fun X W hX tk => by
  obtain ⟨rfl, rfl, rfl, rfl, rfl, hN, hsc, hcm, hrm, htp, hfn, hps, hgd, hsu⟩ := hX
  have hX : XOk X.prog X.w X.K X.mg X.base S X := ⟨rfl, rfl, rfl, rfl, rfl, hN, hsc, hcm, hrm, htp, hfn, hps, hgd, hsu⟩
  refine ⟨fun pins s σ H Q I h => ?_⟩
  obtain ⟨hol, ds, dv, hv, hd, hbb⟩ := hb
  refine wpAny_Call_Name_kw (ld_glob I (show X.env.scope.names.lookup x = _ by rw [← hsc]; exact hg) hm ?_ hdb)
  refine ha X W hX tk pos (.ref C) [] pins s σ H (fun vs H1 => ∃ ρ1 st1 xs, RS X.K X.mg ρ1 H1 st1 ∧ RVs X.K X.mg ρ1 H1 xs vs ∧ PostE X.K X.mg W ρ1 H1 σ Q ((mi.m (arr .non mi.ord (.loc st1.length :: xs) mi.dvs) (st1 ++ [.ins x al []])).bind fun v st2 => match v with
      | .non => .ok (.loc st1.length) st2
      | _ => .stuck)) _ M.kp I (by
    obtain ⟨ρ, st, env, rs, re, h⟩ := h
    exact ⟨ρ, st, env, rs, re, Post.bind h fun ρ1 H1 st1 xs vs hok e1 rs1 rvs p1 => ⟨ρ1, st1, xs, rs1, rvs, p1⟩⟩) fun s1 us ws vs H1 I1 r l1 l2 ⟨ρ1, st1, xs, rs1, rvs, p1⟩ => ?_
  have hx : H1 (s1.heap.objs.size + 1) = none := I1.hok.fresh (Nat.le_succ _)
  have hdx : H1 s1.heap.objs.size = none := I1.hok.fresh (Nat.le_refl _)
  have hne : s1.heap.objs.size + 1 ≠ s1.heap.objs.size := Nat.succ_ne_self _
  have I2 := Inv.made (C := C) I1
  have rsA := rs1.new (o := .own (s1.heap.objs.size + 1)) hdx
  have hx2 : (upd H1 s1.heap.objs.size (.own (s1.heap.objs.size + 1))) (s1.heap.objs.size + 1) = none := by rw [upd_ne hne]; exact hx
  have eA : Ext ρ1 H1 ρ1 (upd H1 s1.heap.objs.size (.own (s1.heap.objs.size + 1))) := .new hdx
  have eB : Ext ρ1 (upd H1 s1.heap.objs.size (.own (s1.heap.objs.size + 1))) (ρ1 ++ [s1.heap.objs.size + 1]) (upd (upd H1 s1.heap.objs.size (.own (s1.heap.objs.size + 1))) (s1.heap.objs.size + 1) (.ins C s1.heap.objs.size [])) := .snoc hx2
  have rsB : RS X.K X.mg (ρ1 ++ [s1.heap.objs.size + 1]) (upd (upd H1 s1.heap.objs.size (.own (s1.heap.objs.size + 1))) (s1.heap.objs.size + 1) (.ins C s1.heap.objs.size [])) (st1 ++ [.ins x al []]) :=
    rsA.snoc hx2 ⟨C, s1.heap.objs.size, [], hm, hcl, hal, upd_same, .nil, fun p hp => by cases hp⟩
  have hl1 : st1.length = ρ1.length := rs1.len.symm
  have rv0 : RV X.K X.mg (ρ1 ++ [s1.heap.objs.size + 1]) (upd (upd H1 s1.heap.objs.size (.own (s1.heap.objs.size + 1))) (s1.heap.objs.size + 1) (.ins C s1.heap.objs.size [])) (.loc st1.length) (.ref (s1.heap.objs.size + 1)) := by
    rw [RV]; exact ⟨_, rfl, by rw [hl1]; simp⟩
  have rvB := RVs.cons rv0 ((rvs.mono eA).mono eB)
  have r' : Vals (.ref (s1.heap.objs.size + 1) :: vs) ((.ref (s1.heap.objs.size + 1) :: us) ++ ws) := .cons rfl r
  have pB := p1.mono (eA.trans eB)
  refine wpAny_call (make_map (f := f) I1.kIn M.makes M.init (beq_iff_eq.mp M.fn) (codeAny_mono (F.run _ X.stack _ _ ⟨.ref (s1.heap.objs.size + 1) :: us, ks.zip ws⟩ (arr .none mi.ord ((.ref (s1.heap.objs.size + 1) :: us) ++ ws) ds) (arr .non mi.ord (.ref (s1.heap.objs.size + 1) :: vs) dv)
    (fun v H2 => v = .non ∧ Q (.ref (s1.heap.objs.size + 1)) H2) (fun cls d H' => W cls d σ H') (by first | exact hgd | (simpa [Around.under, pushGuards, Code.guards, Code.isGuard] using hgd)) (((hrm hc).mono hk).make C us (ks.zip ws)) (I2.env0.make C us (ks.zip ws)) (hbb _ (.ref (s1.heap.objs.size + 1) :: us) ws I2.kIn (by simp [l1]) l2) (Vals.arr mi.ord r' hv)
    ⟨_, _, arr .non mi.ord (.loc st1.length :: xs) mi.dvs, rsB, rvB.arr mi.ord (hd _ _), by simp [arr, hol], ?_⟩) fun r s' hq' => ?_))
  · cases q : mi.m (arr .non mi.ord (.loc st1.length :: xs) mi.dvs) (st1 ++ [.ins x al []]) with
    | stuck => rw [q] at pB; exact pB.elim
    | err x s => rw [q] at pB; exact pB
    | ok v s =>
      rw [q] at pB
      cases v with
      | non =>
        intro ρ' H' u e' rs' ru
        rw [RV] at ru
        refine ⟨ru, pB ρ' H' _ e' rs' ?_⟩
        rw [RV] at rv0 ⊢
        obtain ⟨a, ea, ha⟩ := rv0
        cases ea
        exact ⟨_, rfl, e'.at ha⟩
      | _ => exact pB.elim
  · cases r with
    | error e => exact tk e s' (XE.of_call I2 (fun _ _ _ h => h) hq')
    | ok fl =>
      cases fl with
      | ret u =>
        obtain ⟨v, H', I3, rv, ev, q3⟩ := I2.after hq'
        subst ev
        exact ⟨rv, ⟨V.ref (s1.heap.objs.size + 1), H', I3, rfl, q3⟩⟩
      | next => exact False.elim hq'
      | brk => exact False.elim hq'
      | cont => exact False.elim hq'
end
end Sm

/-! The Sim layer, part 7: try .. except, the fields of an exception, comprehensions. -/
namespace Sm
open PySem L2
/-- a clause: the name of its class, the slot of its name, its suite -/
structure Cl where
  c : Str
  i : Option Nat
  s : Sx
/-- a suite's end: the name goes -/
def goneS (i : Option Nat) (r : SR) : SR := match i with
  | none => r
  | some i => match r with
    | .nx e st => .nx (e.set i none) st
    | .bk e st => .bk (e.set i none) st
    | .ct e st => .ct (e.set i none) st
    | q => q
def noEr (r : SR) : SR := match r with
  | .er _ _ _ => .stuck
  | q => q
/-- the clauses, one after the other; exm tells whether a class is taken by a clause's -/
def clauses (exm : Str → Str → Option Bool) (x : Xn) (env : Env) (st : Sto) : List Cl → SR
  | [] => .er x env st
  | k :: r => match exm x.1 k.c with
    | some true => match k.i with
      | none => noEr (k.s env st)
      | some i => if i < env.length then goneS (some i) (noEr (k.s (env.set i (some (.exc x.1 x.2))) st)) else .stuck
    | some false => clauses exm x env st r
    | none => .stuck
def sTry (exm : Str → Str → Option Bool) (b : Sx) (cs : List Cl) : Sx := fun env st => match b env st with
  | .er x e s => clauses exm x e s cs
  | q => q
/-- what exm tells is so -/
def ExmOk (K : PySem.W.Frag) (mg : Str → Option Value) (exm : Str → Str → Option Bool) : Prop := ∀ x c b C D, exm x c = some b → mg x = some (.ref C) → mg c = some (.ref D) → PySem.W.exmOne K (.ref C) (.ref D) = some b
/-- e.f of the exception that is held -/
def eXf (i : Nat) (f : Str) : Ex := fun env st => match env[i]? with
  | some (some (.exc _ fs)) => match fs.lookup f with
    | some v => .ok v st
    | none => .stuck
  | _ => .stuck
section
variable (P : Program) (w : World) (K : PySem.W.Frag) (mg : Str → Option Value) (base : Heap) (S : Sc)
/-- a suite without a name, with one -/
def SimU (body : List Stmt) (s : Sx) : Prop := SimSs P w K mg base { S with calm := false, top := false, xi := none } body s
def SimU1 (i : Nat) (body : List Stmt) (s : Sx) : Prop := ∀ a cls d, SimSs P w K mg base { S with calm := false, top := false, xi := some ⟨i, a, cls, d⟩ } body s
end
section
variable {P : Program} {w : World} {K : PySem.W.Frag} {mg : Str → Option Value} {base : Heap} {S : Sc}
variable {e a b c : Expr} {es : List Expr} {ma mb mc : Ex} {aa ab : Ax} {pos pos' : Pos} {body suite : List Stmt} {b₀ : Stmt} {sb ss : Sx} {exm : Str → Str → Option Bool}
variable {ρ ρ' : List Addr} {H H' : Hp} {W : WX} {σ : L2.St} {st : Sto} {xi : Option XI} {env : Env}
theorem XOk.tr {X : Cx} (h : XOk P w K mg base S X) (hxi : S.xi = none) {pn : List (Addr × Obj)} {xe : Value → Shared → Prop} (hp : PassesOwn (model X.prog X.w) X.A X.env xe) : XOk P w K mg base S (X.tr pn xe) :=
  ⟨h.prog, h.w, h.K, h.mg, h.base, h.N, h.scope, h.calm, h.room, h.top, h.fn, hp, h.gd, fun ξ hξ => by rw [hxi] at hξ; cases hξ⟩
theorem XOk.suite0 {X : Cx} (h : XOk P w K mg base S X) {a : Addr} {pn : List (Addr × Obj)} : XOk P w K mg base { S with calm := false, top := false, xi := none } (X.suite a pn) :=
  ⟨h.prog, h.w, h.K, h.mg, h.base, h.N, h.scope, rfl, fun q => Bool.noConfusion q, fun q => Bool.noConfusion q, h.fn, PassesOwn.never, h.gd, fun ξ hξ => by cases hξ⟩
theorem XOk.suite1 {X : Cx} (h : XOk P w K mg base S X) {i : Nat} {a : Addr} {cls : Value} {d : Option Addr} {oe : Obj} {pn : List (Addr × Obj)} (hz : Zc cls d oe) (hf : ∃ vs, oe.data = .fields vs) : XOk P w K mg base { S with calm := false, top := false, xi := some ⟨i, a, cls, d⟩ } (X.suite a ((a, oe) :: pn)) :=
  ⟨h.prog, h.w, h.K, h.mg, h.base, h.N, h.scope, rfl, fun q => Bool.noConfusion q, fun q => Bool.noConfusion q, h.fn, PassesOwn.never, h.gd, fun ξ hξ => by cases hξ; exact ⟨X, oe, pn, rfl, hz, hf⟩⟩
/-- a suite's wish, seen from the def -/
theorem PostS.noEr {D : Ends} {r : SR} {xi' : Option XI} {W' : WX} (h : PostS K mg W xi ρ H D (noEr r)) (hx : ∀ ρ' H' e σ', RE K mg ρ' H' xi' e σ' → RE K mg ρ' H' xi e σ') : PostS K mg W' xi' ρ H D r := by
  cases r with
  | nx x st' => exact fun ρ'' H'' v e a b => h ρ'' H'' v e a (hx _ _ _ _ b)
  | bk x st' => exact fun ρ'' H'' v e a b => h ρ'' H'' v e a (hx _ _ _ _ b)
  | ct x st' => exact fun ρ'' H'' v e a b => h ρ'' H'' v e a (hx _ _ _ _ b)
  | rt x st' => exact h
  | er x en st' => exact h.elim
  | stuck => exact h
/-- the name's slot forgotten -/
theorem RE.gone {i : Nat} {xi' : Option XI} {env : Env} {σ : L2.St} (h : RE K mg ρ H xi env σ) (hx : xi' = none) : RE K mg ρ H xi' (env.set i none) (σ.set i none) := by
  subst hx
  refine ⟨by simp [h.1], fun j x hj hx => ?_, fun ξ c fs h1 _ => by cases h1⟩
  by_cases hji : j = i
  · subst hji
    by_cases hl : j < env.length
    · rw [List.getElem?_set_self hl] at hj; cases hj
    · rw [List.getElem?_eq_none (by simpa using hl)] at hj; cases hj
  · rw [List.getElem?_set_ne (Ne.symm hji)] at hj ⊢
    exact h.2.1 j x hj hx
theorem RE.hold {i : Nat} {a : Addr} {cls : Value} {d : Option Addr} {x : Xn} {env : Env} {σ : L2.St} (h : RE K mg ρ H xi env σ) (rx : RX K mg ρ H x cls d) (hi : i < env.length) : RE K mg ρ H (some ⟨i, a, cls, d⟩) (env.set i (some (.exc x.1 x.2))) (σ.set i (some (.ref a))) := by
  refine ⟨by simp [h.1], fun j y hj hy => ?_, fun ξ c fs h1 h2 => ?_⟩
  · by_cases hji : j = i
    · subst hji
      rw [List.getElem?_set_self hi] at hj
      cases hj
      exact absurd rfl (hy _ _)
    · rw [List.getElem?_set_ne (Ne.symm hji)] at hj ⊢
      exact h.2.1 j y hj hy
  · cases h1
    simp only at h2 ⊢
    rw [List.getElem?_set_self hi] at h2
    cases h2
    exact ⟨List.getElem?_set_self (by rw [h.1]; exact hi), rx⟩
theorem RE.drop {env : Env} {σ : L2.St} {xi' : Option XI} (h : RE K mg ρ H xi env σ) (hx : xi' = none) : RE K mg ρ H xi' env σ := by
  subst hx; exact ⟨h.1, h.2.1, fun ξ c fs h1 _ => by cases h1⟩
/-- the clauses as the handlers want them -/
inductive SimHs (P : Program) (w : World) (K : PySem.W.Frag) (mg : Str → Option Value) (base : Heap) (S : Sc) : List ExceptHandler → List Cl → Prop
  | nil : SimHs P w K mg base S [] []
  | cons {x : Str} {D : Addr} {b₀ : Stmt} {suite : List Stmt} {np pos' : Pos} {hds : List ExceptHandler} {l : List Cl} {s : Sx} (hg : S.sc.names.lookup x = some .globalImplicit) (hd : (x == ("__debug__" : Str)) = false) (hm : mg x = some (.ref D))
      (hs : SimU P w K mg base S (b₀ :: suite) s) (r : SimHs P w K mg base S hds l) : SimHs P w K mg base S (.ExceptHandler (some (.Name x np)) none (b₀ :: suite) pos' :: hds) (⟨x, none, s⟩ :: l)
/-- try: .. except A: .. except B: .. -/
theorem simS_try {h₀ : ExceptHandler} {hds : List ExceptHandler} {cs : List Cl} (hx : ExmOk K mg exm) (htop : S.top = true) (hxi : S.xi = none) (hb : SimSs P w K mg base S body sb) (hh : SimHs P w K mg base S (h₀ :: hds) cs) : SimS P w K mg base S (.Try body (h₀ :: hds) [] [] pos) (sTry exm sb cs) := fun X W hX tk => by
  obtain ⟨rfl, rfl, rfl, rfl, rfl, hN, hsc, hcm, hrm, htp, hfn, hps, hgd, hsu⟩ := hX
  have hX : XOk X.prog X.w X.K X.mg X.base S X := ⟨rfl, rfl, rfl, rfl, rfl, hN, hsc, hcm, hrm, htp, hfn, hps, hgd, hsu⟩
  obtain ⟨hst, hfr⟩ := htp htop
  -- the handlers, and what they wish
  have key : ∀ {hs : List ExceptHandler} {cs : List Cl}, SimHs X.prog X.w X.K X.mg X.base S hs cs → ∃ l, HdsOk X hs l ∧
      ∀ (D : Ends) (ρ : List Addr) (H : Hp) (σ : L2.St) (env : Env) (st : Sto) (x : Xn) (cls : Value) (d : Option Addr), RS X.K X.mg ρ H st → RE X.K X.mg ρ H none env σ → RX X.K X.mg ρ H x cls d → PostS X.K X.mg W none ρ H D (clauses exm x env st cs) → wMany X.K W D l cls d σ H := by
    intro hs cs h
    induction h with
    | nil => exact ⟨[], .nil, fun D ρ H σ env st x cls d rs re rx h => h ρ H σ cls d .refl rs re rx⟩
    | @cons x D b₀ suite np pos' hds l s hg hd hm hs r ih =>
      obtain ⟨l', h1, h2⟩ := ih
      refine ⟨(.ref D, fun a cls d => tS X.K X.mg (fun _ _ _ _ => False) none s) :: l', .cons ⟨show X.env.scope.names.lookup x = _ by rw [← hsc]; exact hg, hd, .inl hm⟩ (fun a oe cls d pn hz hf => hs _ _ hX.suite0 takes0) h1, fun D' ρ H σ env st x' cls d rs re rx h => ?_⟩
      obtain ⟨C, q1, q2, q3⟩ := id rx
      unfold clauses at h
      cases qe : exm x'.1 x with
      | none => simp only [qe] at h; exact h.elim
      | some b =>
        simp only [qe] at h
        refine ⟨b, by rw [q2]; exact hx _ _ b C D qe q1 hm, fun hbt a ha => ?_, fun hbf => ?_⟩
        · subst hbt
          exact ⟨ρ, st, env, rs, re, h.noEr fun _ _ _ _ q => q⟩
        · subst hbf
          exact h2 D' ρ H σ env st x' cls d rs re rx h
  obtain ⟨l, hl1, hl2⟩ := key hh
  refine PS.imp (ps_try_many (tb := fun W' => tS X.K X.mg W' S.xi sb) hst hfr tk (fun W' pn xe tk' hp => hb _ W' (hX.tr hxi hp) tk') hl1) fun D σ H ⟨ρ, st, env, rs, re, h⟩ => ⟨ρ, st, env, rs, re, ?_⟩
  unfold sTry at h
  cases q : sb env st with
  | er x e s =>
    rw [q] at h
    rw [hxi] at h ⊢
    exact fun ρ1 H1 σ1 cls d e1 rs1 re1 rx => hl2 D ρ1 H1 σ1 e s x cls d rs1 re1 rx (PostS.mono h e1)
  | nx e s => rw [q] at h; exact h
  | bk e s => rw [q] at h; exact h
  | ct e s => rw [q] at h; exact h
  | rt e s => rw [q] at h; exact h
  | stuck => rw [q] at h; exact h
end
end Sm

/-! The Sim layer, part 8: comprehensions; what an except suite reads. -/
namespace Sm
open PySem L2
def wipeE (env : Env) : List Nat → Env
  | [] => env
  | v :: vs => (wipeE env vs).set v none
def noErR {α : Type} (r : R α) : R α := match r with
  | .err _ _ => .stuck
  | q => q
open Classical in
/-- the turns of a comprehension; the new list is the D-th object -/
noncomputable def lcL (gd : List (Nat × Ob)) (g : Gx) (t : Tx) (m : Ex) (env : Env) (D : Nat) : List Val → Sto → R Unit
  | [], st => if ∀ p ∈ gd, st[p.1]? = some p.2 then .ok () st else .stuck
  | x :: r, st => if ∀ p ∈ gd, st[p.1]? = some p.2 then (match g x env with
    | none => .stuck
    | some env1 => (noErR (t env1 st)).bind fun b st1 => if b then (noErR (m env1 st1)).bind fun y st2 => (match st2[D]? with
        | some (.lst acc) => if acc.length < 16777216 then lcL gd g t m env D r (st2.set D (.lst (acc ++ [y]))) else .stuck
        | _ => .stuck) else lcL gd g t m env D r st1) else .stuck
noncomputable def eLc (mi : Ix) (g : Gx) (t : Tx) (m : Ex) (vs : List Nat) : Ex := fun env st => (mi env st).bind fun xg st1 => (lcL xg.2 g t m (wipeE env vs) st1.length xg.1 (st1 ++ [.lst []])).bind fun _ st2 => .ok (.loc st1.length) st2
def tYes' : Tx := fun _ st => .ok true st
section
variable (P : Program) (w : World) (K : PySem.W.Frag) (mg : Str → Option Value) (base : Heap) (S : Sc)
def SimP (ifs : List Expr) (m : Tx) : Prop := ∀ X W, XOk P w K mg base S X → Takes X W → PTs X ifs (tT K mg W S.xi m)
end
/-- within a comprehension -/
def Sc.blk (S : Sc) (scope : Scope) : Sc := { S with sc := relS scope S.sc, top := false, fn := fun x => scope.names.lookup x == some .cell, xi := none }
section
variable {P : Program} {w : World} {K : PySem.W.Frag} {mg : Str → Option Value} {base : Heap} {S : Sc}
variable {e a b c : Expr} {es : List Expr} {ma mb mc : Ex} {ta tb : Tx} {aa ab : Ax} {pos pos' : Pos} {ga : Gx} {mi : Ix}
variable {ρ ρ' : List Addr} {H H' : Hp} {W : WX} {σ : L2.St} {st : Sto} {xi : Option XI} {env : Env}
theorem simP_nil : SimP P w K mg base S [] tYes' := fun X W hX tk => ⟨fun pins s σ H Q I ⟨ρ, st, env, rs, re, h⟩ => pts_nil.run pins s σ H Q I (h ρ H true .refl rs rfl)⟩
theorem simP_one (h : SimT P w K mg base S c ta) : SimP P w K mg base S [c] ta := fun X W hX tk => pts_one (h X W hX tk)
theorem RE.wipe (re : RE K mg ρ H xi env σ) : ∀ vs : List Nat, RE K mg ρ H none (wipeE env vs) (L2.wipe σ vs)
  | [] => re.drop rfl
  | v :: vs => (RE.wipe re vs).gone rfl
theorem wipe_get {i : Nat} : ∀ {vs : List Nat} {σ : L2.St}, i ∈ vs → (L2.wipe σ vs)[i]? = if i < σ.length then some none else none
  | [], _, h => by cases h
  | v :: vs, σ, h => by
    unfold L2.wipe
    by_cases hi : i = v
    · subst hi
      by_cases hl : i < σ.length
      · rw [List.getElem?_set_self (by rw [wipe_length]; exact hl), if_pos hl]
      · rw [List.getElem?_eq_none (by rw [List.length_set, wipe_length]; omega), if_neg hl]
    · rw [List.getElem?_set_ne (Ne.symm hi)]
      exact wipe_get ((List.mem_cons.mp h).resolve_left hi)
theorem wipe_agr {vs : List Nat} {σ σ' : L2.St} (h : Agr vs (L2.wipe σ vs) σ') : L2.wipe σ' vs = L2.wipe σ vs := by
  have hl : σ'.length = σ.length := by rw [h.1, wipe_length]
  refine List.ext_getElem? fun i => ?_
  by_cases hi : i ∈ vs
  · rw [wipe_get hi, wipe_get hi, hl]
  · rw [wipe_out hi]; exact h.2 i hi
theorem XOk.blk {X : Cx} (h : XOk P w K mg base S X) {s : Shared} {H : Hp} {scope : Scope} {cl : List (Str × Addr)} {C : Addr} {fp : List Addr} : XOk P w K mg base (S.blk scope) (X.blk s H scope (compEnvC scope cl C X.env) fp) :=
  ⟨h.prog, h.w, h.K, h.mg, h.base, h.N, (show relS scope S.sc = relS scope X.env.scope by rw [h.scope]), h.calm, h.room, fun q => Bool.noConfusion q, fun _ q => q, PassesOwn.never, h.gd, fun ξ hξ => by cases hξ⟩
theorem Post.noErR {α β : Type} {rel : List Addr → Hp → α → β → Prop} {Q : β → Hp → Prop} {r : R α} {W' : WX} (h : Post K mg rel W ρ H σ Q (noErR r)) : Post K mg rel W' ρ H σ Q r := by
  cases r with
  | ok x s => exact h
  | err x s => exact h.elim
  | stuck => exact h
/-- a comprehension's reading, from what it comes to -/
theorem lc_reading {vs : List Nat} {Q : VK} (rs : RS K mg ρ H st) (re : RE K mg ρ H xi env σ) (h : PostE K mg W ρ H σ Q (eLc mi ga ta ma vs env st)) :
    tLc (tI K mg W xi mi) (tG K mg none vs ga) (tT K mg (fun _ _ _ _ => False) none ta) (tE K mg (fun _ _ _ _ => False) none ma) vs σ H Q := by
  refine ⟨ρ, st, env, rs, re, Post.bind h fun ρ1 H1 st1 xg J _ e1 rs1 rI p1 => ?_⟩
  intro D hD
  have re1 := (re.mono e1).wipe (vs)
  have eD : Ext ρ1 H1 (ρ1 ++ [D]) (upd H1 D (.lst [])) := .snoc hD
  have rsD := rs1.snoc (u := .lst []) (o := .lst []) hD ⟨[], upd_same, .nil⟩
  have hDl : (ρ1 ++ [D])[st1.length]? = some D := by rw [← rs1.len]; simp
  refine ⟨fun i m H' => ∃ ρ' st', Ext (ρ1 ++ [D]) (upd H1 D (.lst [])) ρ' H' ∧ RS K mg ρ' H' st' ∧ m = xg.1.length - i ∧ i ≤ xg.1.length ∧
      PostE K mg W ρ' H' σ Q ((lcL xg.2 ga ta ma (wipeE env (vs)) st1.length (xg.1.drop i) st').bind fun _ st2 => .ok (.loc st1.length) st2),
    ⟨xg.1.length, ρ1 ++ [D], st1 ++ [.lst []], .refl, rsD, by simp, by simp, by simpa using Post.mono p1 eD⟩, ?_⟩
  rintro i m H' ⟨ρ', st', e', rs', rfl, hi, p'⟩
  have eT := eD.trans e'
  by_cases hlt : i < xg.1.length
  · right
    have hx : xg.1[i]? = some xg.1[i] := List.getElem?_eq_getElem hlt
    rw [List.drop_eq_getElem_cons hlt] at p'
    unfold lcL at p'
    split at p'
    · rename_i hgd
      obtain ⟨h1, h2⟩ := (rI ρ' H' st' eT rs' hgd).2 i _ hx
      refine ⟨h1, fun H2 => ∃ ρ2 st2, Ext (ρ1 ++ [D]) (upd H1 D (.lst [])) ρ2 H2 ∧ RS K mg ρ2 H2 st2 ∧ PostE K mg W ρ2 H2 σ Q ((lcL xg.2 ga ta ma (wipeE env (vs)) st1.length (xg.1.drop (i + 1)) st2).bind fun _ st2 => .ok (.loc st1.length) st2), ?_, fun v H'' hy => ?_⟩
      · rintro H2 ⟨ρ2, st2, e2, rs2, p2⟩
        exact ⟨xg.1.length - (i + 1), by omega, ρ2, st2, e2, rs2, rfl, by omega, p2⟩
      · obtain ⟨f1, f2, f3⟩ := h2 v H'' hy
        refine ⟨ρ', st', wipeE env (vs), xg.1[i], f2, ?_, f3, ?_⟩
        · exact (re1.mono eT).mono f1
        cases q : ga xg.1[i] (wipeE env (vs)) with
        | none => rw [q] at p'; exact p'.elim
        | some env1 =>
          rw [q] at p'
          dsimp only at p'
          have ef := e'.trans f1
          refine fun ρ2 H2 σ2 e2 rs2 re2 g2 => ⟨wipe_agr g2, ρ2, st', env1, rs2, re2, Post.noErR (W := W) ?_⟩
          have p2 := Post.mono p' (f1.trans e2)
          -- the test
          cases qt : noErR (ta env1 st') with
          | stuck => rw [qt] at p2; exact p2.elim
          | err x s => rw [qt] at p2; cases q3 : ta env1 st' <;> rw [q3] at qt <;> cases qt
          | ok b st3 =>
            rw [qt] at p2
            intro ρ3 H3 b' e3 rs3 hb
            cases hb
            have p3 := Post.mono p2 e3
            simp only [R.bind_ok] at p3
            cases b with
            | false => rw [if_neg (by simp)]; rw [if_neg (by simp)] at p3; exact ⟨ρ3, st3, (ef.trans e2).trans e3, rs3, p3⟩
            | true =>
              rw [if_pos rfl]
              rw [if_pos rfl] at p3
              refine ⟨ρ3, st3, env1, rs3, re2.mono e3, Post.noErR (W := W) ?_⟩
              cases qe : noErR (ma env1 st3) with
              | stuck => rw [qe] at p3; exact p3.elim
              | err x s => rw [qe] at p3; cases q4 : ma env1 st3 <;> rw [q4] at qe <;> cases qe
              | ok y st4 =>
                rw [qe] at p3
                intro ρ4 H4 v4 e4 rs4 rv4
                have p4 := Post.mono p3 e4
                simp only [R.bind_ok] at p4
                have eA := ((ef.trans e2).trans e3).trans e4
                have hD4 : ρ4[st1.length]? = some D := eA.at hDl
                cases q5 : st4[st1.length]? with
                | none => rw [q5] at p4; exact p4.elim
                | some ob =>
                  rw [q5] at p4
                  cases ob with
                  | lst acc =>
                    simp only at p4
                    obtain ⟨us, w1, w2⟩ := rs4.at q5 hD4
                    split at p4
                    · rename_i hz
                      have hz' : us.length < sizeLine := by rw [w2.length, sizeLine_eq]; exact hz
                      have eS := rs4.ext (u := .lst (us ++ [v4])) hD4
                      refine ⟨us, w1, hz', ρ4, st4.set st1.length (.lst (acc ++ [y])), eA.trans eS, rs4.set hD4 ⟨us ++ [v4], upd_same, (w2.append (.cons rv4 .nil)).mono eS⟩, Post.mono p4 eS⟩
                    · exact p4.elim
                  | _ => exact p4.elim
    · exact p'.elim
  · left
    rw [List.drop_eq_nil_of_le (by omega)] at p'
    unfold lcL at p'
    split at p'
    · rename_i hgd
      refine ⟨(rI ρ' H' st' eT rs' hgd).1 i (by omega), p' ρ' H' _ .refl rs' ?_⟩
      rw [RV]
      exact ⟨D, rfl, e'.at hDl⟩
    · exact p'.elim
/-- [elt for tg in iter if ..] -/
theorem simE_lc {elt tg iter : Expr} {ifs : List Expr} {scope : Scope} {own : List (Str × Nat)} (hc : S.calm = true) (hN : S.N.Nodup) (hi : SimI P w K mg base S tg iter mi) (ok : BlkOk S.N S.sc scope own) (hg : SimG P w K mg base (S.blk scope) tg (own.map (·.2)) ga)
    (ht : SimP P w K mg base (S.blk scope) ifs ta) (he : SimE P w K mg base (S.blk scope) elt ma) (hs : ∀ env x, foldedSetIterable iter env x = pure x) :
    SimE P w K mg base S (.ListComp elt [⟨tg, iter, ifs, 0⟩] scope pos) (eLc mi ga ta ma (own.map (·.2))) := fun X W hX tk =>
  PE.imp (pe_lc (own := own) (by rw [← hX.calm]; exact hc) (by rw [← hX.N]; exact hN) (hi X W hX tk) (by rw [← hX.N, ← hX.scope]; exact ok) (fun s H C cl fp => hg _ hX.blk) (fun s H C cl fp => ht _ (fun _ _ _ _ => False) hX.blk takes0) (fun s H C cl fp => he _ (fun _ _ _ _ => False) hX.blk takes0) (hs _)) fun σ H Q ⟨ρ, st, env, rs, re, h⟩ => lc_reading rs re h
/-- y = [elt for tg in iter if ..], y a local -/
theorem simS_setLc {elt tg iter : Expr} {ifs : List Expr} {scope : Scope} {own : List (Str × Nat)} {i : Nat} {y : Str} {py spos : Pos} (hc : S.calm = true) (hN : S.N.Nodup) (hk : S.sc.kind = .function) (hy : S.N[i]? = some y) (hyl : S.sc.names.lookup y = some .local) (hl : (py.line == pos.line) = true)
    (hno : (scope.names.any fun (n, k) => n == y && (k == .local || k == .cell)) = false) (hi : SimI P w K mg base S tg iter mi) (ok : BlkOk S.N S.sc scope own) (hg : SimG P w K mg base (S.blk scope) tg (own.map (·.2)) ga)
    (ht : SimP P w K mg base (S.blk scope) ifs ta) (he : SimE P w K mg base (S.blk scope) elt ma) (hs : ∀ env x, foldedSetIterable iter env x = pure x) :
    SimS P w K mg base S (.Assign [.Name y py] (.ListComp elt [⟨tg, iter, ifs, 0⟩] scope pos) spos) (sAsg (eLc mi ga ta ma (own.map (·.2))) (gNm i)) := fun X W hX tk =>
  PS.imp (ps_setLc (i := i) (own := own) (by rw [← hX.calm]; exact hc) (by rw [← hX.N]; exact hN) (by rw [← hX.N]; exact hy) (by rw [← hX.scope]; exact hyl) (sw_true (by rw [← hX.scope]; exact hk) (by rw [← hX.scope]; exact hyl) hl hno) (hi X W hX tk) (by rw [← hX.N, ← hX.scope]; exact ok) (fun s H C cl fp => hg _ hX.blk) (fun s H C cl fp => ht _ (fun _ _ _ _ => False) hX.blk takes0) (fun s H C cl fp => he _ (fun _ _ _ _ => False) hX.blk takes0) (hs _)) fun D σ H ⟨ρ, st, env, rs, re, h⟩ =>
    lc_reading rs re (PostS.bind h re fun ρ1 H1 st1 x v _ e1 rs1 rv p1 => p1 ρ1 H1 _ .refl rs1 ((re.mono e1).set rv))
/-! ### an except clause with a name; what it reads -/
/-- try: .. except x as n: suite -/
theorem simS_tryAs {x n : Str} {D : Addr} {i : Nat} {b₀ : Stmt} {body suite : List Stmt} {np pos' : Pos} {sb ss : Sx} {exm : Str → Str → Option Bool} (hx : ExmOk K mg exm) (htop : S.top = true) (hxi : S.xi = none) (hN : S.N.Nodup) (hi : S.N[i]? = some n) (hn : S.sc.names.lookup n = some .local)
    (hg : S.sc.names.lookup x = some .globalImplicit) (hd : (x == ("__debug__" : Str)) = false) (hm : mg x = some (.ref D)) (hb : SimSs P w K mg base S body sb) (hs : SimU1 P w K mg base S i (b₀ :: suite) ss) :
    SimS P w K mg base S (.Try body [.ExceptHandler (some (.Name x np)) (some n) (b₀ :: suite) pos'] [] [] pos) (sTry exm sb [⟨x, some i, ss⟩]) := fun X W hX tk => by
  obtain ⟨rfl, rfl, rfl, rfl, rfl, hN', hsc, hcm, hrm, htp, hfn, hps, hgd, hsu⟩ := hX
  have hX : XOk X.prog X.w X.K X.mg X.base S X := ⟨rfl, rfl, rfl, rfl, rfl, hN', hsc, hcm, hrm, htp, hfn, hps, hgd, hsu⟩
  obtain ⟨hst, hfr⟩ := htp htop
  refine PS.imp (ps_try_as (tb := fun W' => tS X.K X.mg W' S.xi sb) (ts := fun a cls d => tS X.K X.mg (fun _ _ _ _ => False) (some ⟨i, a, cls, d⟩) ss) hst hfr (by rw [← hN']; exact hN) (by rw [← hN']; exact hi) (show X.env.scope.names.lookup n = _ by rw [← hsc]; exact hn)
    ⟨show X.env.scope.names.lookup x = _ by rw [← hsc]; exact hg, hd, .inl hm⟩ tk (fun W' pn xe tk' hp => hb _ W' (hX.tr hxi hp) tk') (fun a oe cls d pn hz hf => hs a cls d _ _ (hX.suite1 hz hf) takes0)) fun E σ H ⟨ρ, st, env, rs, re, h⟩ => ⟨ρ, st, env, rs, re, ?_⟩
  unfold sTry at h
  cases q : sb env st with
  | er x' e s =>
    rw [q] at h
    rw [hxi] at h ⊢
    refine fun ρ1 H1 σ1 cls d e1 rs1 re1 rx => ?_
    have h1 := PostS.mono h e1
    obtain ⟨C, q1, q2, q3⟩ := id rx
    unfold clauses at h1
    cases qe : exm x'.1 x with
    | none => simp only [qe] at h1; exact h1.elim
    | some b =>
      simp only [qe] at h1
      refine ⟨b, by rw [q2]; exact hx _ _ b C D qe q1 hm, fun hbt a ha => ?_, fun hbf => ?_⟩
      · subst hbt
        dsimp only at h1
        have hil : i < e.length := by
          by_cases hil : i < e.length
          · exact hil
          · rw [if_neg hil] at h1; exact h1.elim
        rw [if_pos hil] at h1
        refine ⟨ρ1, s, e.set i (some (.exc x'.1 x'.2)), rs1, re1.hold rx hil, ?_⟩
        cases q4 : ss (e.set i (some (.exc x'.1 x'.2))) s with
        | nx e2 s2 => rw [q4] at h1; exact fun ρ2 H2 σ2 e3 rs2 re2 => h1 ρ2 H2 _ e3 rs2 (re2.gone rfl)
        | bk e2 s2 => rw [q4] at h1; exact fun ρ2 H2 σ2 e3 rs2 re2 => h1 ρ2 H2 _ e3 rs2 (re2.gone rfl)
        | ct e2 s2 => rw [q4] at h1; exact fun ρ2 H2 σ2 e3 rs2 re2 => h1 ρ2 H2 _ e3 rs2 (re2.gone rfl)
        | rt v2 s2 => rw [q4] at h1; exact h1
        | er x2 e2 s2 => rw [q4] at h1; exact h1.elim
        | stuck => rw [q4] at h1; exact h1.elim
      · subst hbf
        exact h1 ρ1 H1 σ1 cls d .refl rs1 re1 rx
  | nx e s => rw [q] at h; exact h
  | bk e s => rw [q] at h; exact h
  | ct e s => rw [q] at h; exact h
  | rt e s => rw [q] at h; exact h
  | stuck => rw [q] at h; exact h
/-- which fields of which errors may be read -/
def XfOk (K : PySem.W.Frag) (mg : Str → Option Value) (xf : Str → Str → Bool) : Prop := ∀ c f C, xf c f = true → mg c = some (.ref C) → XfC K C ∧ PySem.W.findIn K (.ref C) f = some none
/-- e.f, e the exception that is held -/
def eXf' (xf : Str → Str → Bool) (i : Nat) (f : Str) : Ex := fun env st => match env[i]? with
  | some (some (.exc c fs)) => if xf c f then (match fs.lookup f with
    | some v => .ok v st
    | none => .stuck) else .stuck
  | _ => .stuck
theorem simE_xf {xf : Str → Str → Bool} {ξ : XI} {n f : Str} {np : Pos} (hx : XfOk K mg xf) (hxi : S.xi = some ξ) (hN : S.N[ξ.i]? = some n) (hv : Vis S.sc n) (hd : (n == ("__debug__" : Str)) = false := by decide) (hcd : (n == ("__classdict__" : Str)) = false := by decide) :
    SimE P w K mg base S (.Attribute (.Name n np) f pos) (eXf' xf ξ.i f) := fun X W hX tk => by
  obtain ⟨rfl, rfl, rfl, rfl, rfl, hN', hsc, hcm, hrm, htp, hfn, hps, hgd, hsu⟩ := hX
  obtain ⟨X0, oe, pn, rfl, hz, hf⟩ := hsu ξ hxi
  have hvar : PE (X0.suite ξ.a ((ξ.a, oe) :: pn)) (.Name n np) (tVar ξ.i) := pe_var (by rw [← hN']; exact hN) (by rw [← hsc]; exact hv) hd hcd
  refine ⟨fun pins s σ H Q I ⟨ρ, st, env, rs, re, h⟩ => ?_⟩
  unfold eXf' at h
  split at h
  · rename_i c fs henv
    split at h
    · rename_i hxf
      split at h
      · rename_i v hv'
        obtain ⟨h1, C, h2, h3, h4⟩ := re.2.2 ξ c fs hxi henv
        obtain ⟨hC, hno⟩ := hx c f C hxf h2
        refine (pe_xf (C := C) hC hno hz hf hvar rfl).run pins s σ H Q I ⟨_, h1, rfl, h3, ?_⟩
        rcases h4 with ⟨e1, _⟩ | ⟨dd, ps, e1, e2, e3⟩
        · have e1' : fs = [] := e1
          rw [e1'] at hv'; cases hv'
        · obtain ⟨u, hu, ru⟩ := e3.lookup hv'
          exact ⟨dd, ps, u, e1, e2, hu, h ρ H u .refl rs ru⟩
      · exact h.elim
    · exact h.elim
  · exact h.elim
/-- what isinstance tells of an error of the class c -/
structure IsxC (K : PySem.W.Frag) (D : Addr) : Prop where
  hc : (PySem.W.clsIn K D).isSome = true
  hg : PySem.W.findIn K (.ref D) "__getattribute__" = some (some (.builtin "BaseException.__getattribute__"))
  hk : PySem.W.findIn K (.ref D) "__getattr__" = some none
  hs : PySem.W.subIn K (.ref D) (.type "BaseException") = some true
  ha : PySem.W.findIn K (.ref D) "__class__" = some (some (.builtin "object.__class__"))
  hn : PySem.W.specialIn K (.builtin "object.__class__") "__get__" = some (some (.builtin "getset_descriptor.__get__"))
  ht : PySem.W.takesIn K (.builtin "object.__class__") = some true
  hm : PySem.W.mroIn K D (.type "object") = some true
def IsxOk (K : PySem.W.Frag) (mg : Str → Option Value) (isx : Str → Str → Option Bool) : Prop := ∀ c t b C D, isx c t = some b → mg c = some (.ref C) → mg t = some (.ref D) → IsxC K C ∧ PySem.W.kitOne K (.ref C) (.ref D) = some b
def eXis (isx : Str → Str → Option Bool) (i : Nat) (t : Str) : Ex := fun env st => match env[i]? with
  | some (some (.exc c _)) => (match isx c t with
    | some b => .ok (.bl b) st
    | none => .stuck)
  | _ => .stuck
theorem simE_xis {isx : Str → Str → Option Bool} {ξ : XI} {n t : Str} {D : Addr} {np tp p : Pos} (hx : IsxOk K mg isx) (hxi : S.xi = some ξ) (hN : S.N[ξ.i]? = some n) (hv : Vis S.sc n) (hg : S.sc.names.lookup ("isinstance" : Str) = some .globalImplicit) (hm : mg "isinstance" = none) (hgt : S.sc.names.lookup t = some .globalImplicit) (hmt : mg t = some (.ref D)) (hdt : (t == ("__debug__" : Str)) = false := by decide)
    (hd : (n == ("__debug__" : Str)) = false := by decide) (hcd : (n == ("__classdict__" : Str)) = false := by decide) :
    SimE P w K mg base S (.Call (.Name "isinstance" p) [.Name n np, .Name t tp] [] pos) (eXis isx ξ.i t) := fun X W hX tk => by
  obtain ⟨rfl, rfl, rfl, rfl, rfl, hN', hsc, hcm, hrm, htp, hfn, hps, hgd, hsu⟩ := hX
  obtain ⟨X0, oe, pn, rfl, hz, hf⟩ := hsu ξ hxi
  have hvar : PE (X0.suite ξ.a ((ξ.a, oe) :: pn)) (.Name n np) (tVar ξ.i) := pe_var (by rw [← hN']; exact hN) (by rw [← hsc]; exact hv) hd hcd
  have hcls : PE (X0.suite ξ.a ((ξ.a, oe) :: pn)) (.Name t tp) (tC (.ref D)) := pe_glob (show X0.env.scope.names.lookup t = _ by rw [← show S.sc = X0.env.scope from hsc]; exact hgt) hmt rfl hdt
  refine ⟨fun pins s σ H Q I ⟨ρ, st, env, rs, re, h⟩ => ?_⟩
  unfold eXis at h
  split at h
  · rename_i c fs henv
    split at h
    · rename_i b hb
      obtain ⟨h1, C, h2, h3, h4⟩ := re.2.2 ξ c fs hxi henv
      obtain ⟨hC, hkit⟩ := hx c t b C D hb h2 hmt
      have call : CallR (X0.suite ξ.a ((ξ.a, oe) :: pn)) (.builtin "isinstance") (fun xs H2 Q' => xs = [.ref ξ.a, .ref D] ∧ H = H2 ∧ Q' (.bl b) H2) := by
        intro pins2 s2 σ2 H2 xs us Q' I2 r hq
        obtain ⟨rfl, rfl, q⟩ := hq
        cases r with
        | cons rx rr =>
          cases rr with
          | cons rt rr =>
            cases rr
            cases rx
            cases rt
            obtain ⟨hget, _⟩ := I2.pin (ξ.a, oe) (List.mem_append.mpr (.inl List.mem_cons_self))
            obtain ⟨vs, hv⟩ := hf
            have fin : ∀ od, PySem.W.InstAt s2.heap ξ.a oe C od → wpAny (model X0.prog X0.w) (X0.suite ξ.a ((ξ.a, oe) :: pn)).A (PySem.call (.builtin "isinstance") [.ref ξ.a, .ref D]) (EP (X0.suite ξ.a ((ξ.a, oe) :: pn)) pins2 σ2 Q') (X0.suite ξ.a ((ξ.a, oe) :: pn)).xe s2 := fun od J =>
              PySem.W.kia_one (PySem.W.kitx_exc hC.hc hC.hg hC.hk hC.hs hC.ha hC.hn hC.ht hC.hm) I2.kIn J hkit (fun z => nomatch z) fun tk => ⟨.bl b, H, I2.kept (t' := tk) fun _ _ z => z, rfl, q⟩
            rcases h4 with ⟨_, e2⟩ | ⟨dd, ps, e1, e2, e3⟩
            · refine fin none ⟨hget, hz.1.trans h3, by unfold PySem.W.notCls; rw [hv] <;> rfl, ?_⟩
              rw [hz.2, e2]; trivial
            · have hxo : ObjOk X0.prog X0.w H s2.heap dd (.xd ps) := I2.hok dd _ e2
              obtain ⟨mA, hns, hr⟩ := hxo
              obtain ⟨od, ho, hl⟩ := lookIn_ns hns
              refine fin (some od) ⟨hget, hz.1.trans h3, by unfold PySem.W.notCls; rw [hv] <;> rfl, ?_⟩
              rw [hz.2, e1]; exact ho
      exact (pe_callB call (show X0.env.scope.names.lookup ("isinstance" : Str) = _ by rw [← show S.sc = X0.env.scope from hsc]; exact hg) hm (by decide +kernel) (pa_cons hvar (pa_cons hcls pa_nil rfl) rfl) (by decide) (by decide) rfl rfl).run pins s σ H Q I ⟨_, h1, rfl, rfl, h ρ H _ .refl rs (by rw [RV])⟩
    · exact h.elim
  · exact h.elim
end
end Sm

/-! The Sim layer, part 9: operators, built-ins by values. -/
namespace Sm
open PySem L2

/-! ### ints -/
def oInt (g : Int → Int → Val) (c : Int → Int → Bool) : Val → Val → Sto → R Val
  | .int i, .int j, st => if c i j then .ok (g i j) st else .stuck
  | _, _, _ => .stuck
def tupLen (n : Nat) : Bool := decide (n ≤ 16777216)
def oAdd : Val → Val → Sto → R Val
  | .int i, .int j, st => .ok (.int (i + j)) st
  | .str a, .str b, st => if a.length + b.length ≤ 16777216 then .ok (.str (a ++ b)) st else .stuck
  | .tup a, .tup b, st => if a.length + b.length ≤ 16777216 then .ok (.tup (a ++ b)) st else .stuck
  | .kt a, .tup b, st => if a.length + b.length ≤ 16777216 ∧ a ≠ [] ∧ b ≠ [] then .ok (.tup (a ++ b)) st else .stuck
  | .tup a, .kt b, st => if a.length + b.length ≤ 16777216 ∧ a ≠ [] ∧ b ≠ [] then .ok (.tup (a ++ b)) st else .stuck
  | .loc a, .loc b, st => match st[a]?, st[b]? with
    | some (.lst xs), some (.lst ys) => if xs.length + ys.length ≤ 16777216 then .ok (.loc st.length) (st ++ [.lst (xs ++ ys)]) else .stuck
    | _, _ => .stuck
  | _, _, _ => .stuck
section
variable {P : Program} {w : World} {K : PySem.W.Frag} {mg : Str → Option Value} {base : Heap} {S : Sc}
variable {ρ ρ' : List Addr} {H H' : Hp} {W : WX} {σ : L2.St} {st : Sto} {Q : VK}
theorem okOpI {f : Value → Value → Sem Value} {C : Int → Int → Prop} {g : Int → Int → V} {g' : Int → Int → Val} {c : Int → Int → Bool} (h : ∀ X : Cx, OpR X f (rI C g)) (hc : ∀ i j, c i j = true → C i j) (hg : ∀ ρ H i j, RV K mg ρ H (g' i j) (g i j)) :
    OpOk P w K mg base S f (oInt g' c) := fun X hX => ⟨_, h X, fun ρ H st x y v u W σ Q rs rv ru p => by
  cases x with
  | int i =>
    cases y with
    | int j =>
      rw [RV] at rv ru
      by_cases hcc : c i j = true
      · rw [show oInt g' c (.int i) (.int j) st = .ok (g' i j) st from if_pos hcc] at p
        exact ⟨i, j, rv, ru, hc i j hcc, p ρ H _ .refl rs (hg ρ H i j)⟩
      · rw [show oInt g' c (.int i) (.int j) st = .stuck from if_neg hcc] at p
        exact p.elim
    | _ => exact p.elim
  | _ => exact p.elim⟩
theorem okOpI0 {f : Value → Value → Sem Value} {g : Int → Int → V} {g' : Int → Int → Val} (h : ∀ X : Cx, OpR X f (rI0 g)) (hg : ∀ ρ H i j, RV K mg ρ H (g' i j) (g i j)) : OpOk P w K mg base S f (oInt g' fun _ _ => true) := fun X hX => ⟨_, h X, fun ρ H st x y v u W σ Q rs rv ru p => by
  cases x with
  | int i =>
    cases y with
    | int j =>
      rw [RV] at rv ru
      exact ⟨i, j, rv, ru, p ρ H _ .refl rs (hg ρ H i j)⟩
    | _ => exact p.elim
  | _ => exact p.elim⟩
theorem rvi {i : Int} : RV K mg ρ H (.int i) (.int i) := by rw [RV]
theorem rvb {i : Bool} : RV K mg ρ H (.bl i) (.bl i) := by rw [RV]
theorem ok_sub : OpOk P w K mg base S (binaryOp .Sub) (oInt (fun i j => .int (i - j)) fun _ _ => true) := okOpI0 (fun _ => op_sub) fun _ _ _ _ => rvi
def cMul (i j : Int) : Bool := decide ((Builtin.Int.intBits i : Int) + (Builtin.Int.intBits j : Int) ≤ 134217728)
theorem ok_mod : OpOk P w K mg base S (binaryOp .Mod) (oInt (fun i j => .int (i % j)) fun _ j => decide (0 < j)) := okOpI (fun _ => op_mod) (fun _ _ h => of_decide_eq_true h) fun _ _ _ _ => rvi
theorem ok_fdiv : OpOk P w K mg base S (binaryOp .FloorDiv) (oInt (fun i j => .int (i / j)) fun _ j => decide (0 < j ∧ j.natAbs.log2 < 9000)) := okOpI (fun _ => op_fdivW) (fun i j h => of_decide_eq_true (p := 0 < j ∧ j.natAbs.log2 < 9000) h) fun _ _ _ _ => rvi
theorem ok_pow : OpOk P w K mg base S (binaryOp .Pow) (oInt (fun i j => .int (i ^ j.toNat)) fun i j => decide (0 ≤ j ∧ j ≤ 1000000 ∧ i.natAbs < 2 ^ 64)) := okOpI (fun _ => op_pow) (fun i j h => of_decide_eq_true (p := 0 ≤ j ∧ j ≤ 1000000 ∧ i.natAbs < 2 ^ 64) h) fun _ _ _ _ => rvi
theorem ok_shl : OpOk P w K mg base S (binaryOp .LShift) (oInt (fun i j => .int (i * 2 ^ j.toNat)) fun i j => decide (0 ≤ j ∧ (Builtin.Int.intBits i : Int) + j ≤ 2 ^ 27)) := okOpI (fun _ => op_shlW) (fun i j h => of_decide_eq_true (p := 0 ≤ j ∧ (Builtin.Int.intBits i : Int) + j ≤ 2 ^ 27) h) fun _ _ _ _ => rvi
theorem ok_shr : OpOk P w K mg base S (binaryOp .RShift) (oInt (fun i j => .int (i / 2 ^ j.toNat)) fun _ j => decide (0 ≤ j)) := okOpI (fun _ => op_shr) (fun _ _ h => of_decide_eq_true h) fun _ _ _ _ => rvi
theorem ok_and : OpOk P w K mg base S (binaryOp .BitAnd) (oInt (fun i j => .int (Builtin.bitAnd i j)) fun _ _ => true) := okOpI0 (fun _ => op_and) fun _ _ _ _ => rvi
theorem ok_or : OpOk P w K mg base S (binaryOp .BitOr) (oInt (fun i j => .int (Builtin.bitOr i j)) fun _ _ => true) := okOpI0 (fun _ => op_or) fun _ _ _ _ => rvi
theorem ok_xor : OpOk P w K mg base S (binaryOp .BitXor) (oInt (fun i j => .int (Builtin.bitXor i j)) fun _ _ => true) := okOpI0 (fun _ => op_xor) fun _ _ _ _ => rvi
theorem ok_ltI : OpOk P w K mg base S (compareOp .Lt) (oInt (fun i j => .bl (decide (i < j))) fun _ _ => true) := okOpI0 (fun _ => op_lt) fun _ _ _ _ => rvb
theorem ok_leI : OpOk P w K mg base S (compareOp .LtE) (oInt (fun i j => .bl (decide (i ≤ j))) fun _ _ => true) := okOpI0 (fun _ => op_le) fun _ _ _ _ => rvb
theorem ok_gtI : OpOk P w K mg base S (compareOp .Gt) (oInt (fun i j => .bl (decide (j < i))) fun _ _ => true) := okOpI0 (fun _ => op_gt) fun _ _ _ _ => rvb
theorem ok_geI : OpOk P w K mg base S (compareOp .GtE) (oInt (fun i j => .bl (decide (j ≤ i))) fun _ _ => true) := okOpI0 (fun _ => op_ge) fun _ _ _ _ => rvb
/-- a new tuple -/
theorem newTup {xs : List Val} {vs : List V} {p : Addr} (rs : RS K mg ρ H st) (hp : H p = none) (rv : RVs K mg ρ H xs vs) : Ext ρ H ρ (upd H p (.tup vs)) ∧ RS K mg ρ (upd H p (.tup vs)) st ∧ RV K mg ρ (upd H p (.tup vs)) (.tup xs) (.ref p) := by
  refine ⟨.new hp, rs.new hp, ?_⟩
  rw [RV]
  exact ⟨p, vs, rfl, upd_same, rv.mono (.new hp)⟩
/-- a new list -/
theorem newLst {xs : List Val} {vs : List V} {p : Addr} (rs : RS K mg ρ H st) (hp : H p = none) (rv : RVs K mg ρ H xs vs) : Ext ρ H (ρ ++ [p]) (upd H p (.lst vs)) ∧ RS K mg (ρ ++ [p]) (upd H p (.lst vs)) (st ++ [.lst xs]) ∧ RV K mg (ρ ++ [p]) (upd H p (.lst vs)) (.loc st.length) (.ref p) := by
  refine ⟨.snoc hp, rs.snoc hp ⟨vs, upd_same, rv.mono (.snoc hp)⟩, ?_⟩
  rw [RV]
  exact ⟨p, rfl, by rw [← rs.len]; simp⟩
theorem cat_pure {a b : Addr} {X : Cx} {x y : Val} {xs ys : List Val} {v u : V} (rs : RS K mg ρ H st) (hx : x = .tup xs ∨ x = .kt xs) (hy : y = .tup ys ∨ y = .kt ys) (hl : xs.length + ys.length ≤ 16777216) (h1 : xs = [] → y = .tup ys) (h2 : ys = [] → x = .tup xs) (rv : RV K mg ρ H x v) (ru : RV K mg ρ H y u)
    (p : PostE K mg W ρ H σ Q (.ok (.tup (xs ++ ys)) st)) : rCatA K v u H Q := by
  obtain ⟨a, vs, rfl, q1, q2⟩ := rv.seqT hx
  obtain ⟨b, us, rfl, q3, q4⟩ := ru.seqT hy
  refine ⟨a, b, vs, us, rfl, rfl, q1, q3, by rw [q2.length, q4.length]; exact line_le hl, fun e => ?_, fun e1 e2 => ?_, fun e1 e2 p' hp => ?_⟩
  · have hxs : xs = [] := by have := q2.length; rw [e] at this; exact List.length_eq_zero_iff.mp this.symm
    have hy' := h1 hxs
    subst hy' hxs
    exact p ρ H _ .refl rs ru
  · have hys : ys = [] := by have := q4.length; rw [e2] at this; exact List.length_eq_zero_iff.mp this.symm
    have hx' := h2 hys
    subst hx' hys
    exact p ρ H _ .refl rs (by rw [List.append_nil]; exact rv)
  · obtain ⟨f1, f2, f3⟩ := newTup rs hp (q2.append q4)
    exact p ρ _ _ f1 f2 f3
theorem ok_add : OpOk P w K mg base S (binaryOp .Add) oAdd := fun X hX => by
  have eK := hX.K
  subst eK
  refine ⟨_, op_add.or (op_add_str.or (op_catA.or op_cat)), fun ρ H st x y v u W σ Q rs rv ru p => ?_⟩
  unfold oAdd at p
  split at p
  · rw [RV] at rv ru
    exact .inl ⟨_, _, rv, ru, p ρ H _ .refl rs rvi⟩
  · rw [RV] at rv ru
    split at p
    · exact .inr (.inl ⟨_, _, rv, ru, line_le (by assumption), p ρ H _ .refl rs (by rw [RV])⟩)
    · exact p.elim
  · split at p
    · exact .inr (.inr (.inl (cat_pure (a := 0) (b := 0) (X := X) rs (.inl rfl) (.inl rfl) (by assumption) (fun _ => rfl) (fun _ => rfl) rv ru p)))
    · exact p.elim
  · split at p
    · rename_i hh
      exact .inr (.inr (.inl (cat_pure (a := 0) (b := 0) (X := X) rs (.inr rfl) (.inl rfl) hh.1 (fun _ => rfl) (fun z => absurd z hh.2.2) rv ru p)))
    · exact p.elim
  · split at p
    · rename_i hh
      exact .inr (.inr (.inl (cat_pure (a := 0) (b := 0) (X := X) rs (.inl rfl) (.inr rfl) hh.1 (fun z => absurd z hh.2.1) (fun _ => rfl) rv ru p)))
    · exact p.elim
  · rw [RV] at rv ru
    obtain ⟨a, rfl, ha⟩ := rv
    obtain ⟨b, rfl, hb⟩ := ru
    split at p
    · rename_i xs ys hx hy
      split at p
      · obtain ⟨vs, q1, q2⟩ := rs.at hx ha
        obtain ⟨us, q3, q4⟩ := rs.at hy hb
        refine .inr (.inr (.inr ⟨a, b, vs, us, rfl, rfl, q1, q3, by rw [q2.length, q4.length]; exact line_le (by assumption), fun p' hp => ?_⟩))
        obtain ⟨f1, f2, f3⟩ := newLst rs hp (q2.append q4)
        exact p _ _ _ f1 f2 f3
      · exact p.elim
    · exact p.elim
  · exact p.elim
/-! ### is None -/
def oIsN (neg : Bool) : Val → Val → Sto → R Val
  | .exc _ _, _, _ => .stuck
  | x, .non, st => .ok (.bl (match x with | .non => !neg | _ => neg)) st
  | _, _, _ => .stuck
theorem RV.non_iff {x : Val} {v : V} (h : RV K mg ρ H x v) : decide (v = V.non) = (match x with | .non => true | _ => false) := by
  cases x with
  | non => rw [RV] at h; subst h; rfl
  | bl b => rw [RV] at h; subst h; rfl
  | int b => rw [RV] at h; subst h; rfl
  | str b => rw [RV] at h; subst h; rfl
  | ty b => rw [RV] at h; subst h; rfl
  | tup b => rw [RV] at h; obtain ⟨a, vs, rfl, _⟩ := h; rfl
  | kt b => rw [RV] at h; obtain ⟨a, vs, rfl, _⟩ := h; rfl
  | loc b => rw [RV] at h; obtain ⟨a, rfl, _⟩ := h; rfl
  | fn b => rw [RV] at h; obtain ⟨a, rfl, _⟩ := h; rfl
  | cl b => rw [RV] at h; obtain ⟨a, rfl, _⟩ := h; rfl
  | scr b => rw [RV] at h; obtain ⟨a, rfl, _⟩ := h; rfl
  | exc _ _ => rw [RV] at h; exact h.elim
theorem ok_is : OpOk P w K mg base S (compareOp .Is) (oIsN false) := fun X hX => ⟨_, op_isN, fun ρ H st x y v u W σ Q rs rv ru p => by
  unfold oIsN at p
  split at p
  · exact p.elim
  · rw [RV] at ru
    refine ⟨ru, p ρ H _ .refl rs ?_⟩
    rw [RV, rv.non_iff]
    cases x <;> rfl
  · exact p.elim⟩
theorem ok_isnot : OpOk P w K mg base S (compareOp .IsNot) (oIsN true) := fun X hX => ⟨_, op_notN, fun ρ H st x y v u W σ Q rs rv ru p => by
  unfold oIsN at p
  split at p
  · exact p.elim
  · rw [RV] at ru
    refine ⟨ru, p ρ H _ .refl rs ?_⟩
    rw [RV, rv.non_iff]
    cases x <;> rfl
  · exact p.elim⟩
/-! ### data: ==, in, repr -/
/-- a value as data, lists by what they hold; at most n deep -/
def pd (st : Sto) : Nat → Val → Option PyData
  | _, .non => some .none
  | _, .bl b => some (.bool b)
  | _, .int i => some (.int i)
  | _, .str s => some (.str s)
  | n + 1, .tup xs => (xs.mapM (pd st n)).map .tuple
  | n + 1, .kt xs => (xs.mapM (pd st n)).map .tuple
  | n + 1, .loc l => match st[l]? with
    | some (.lst xs) => (xs.mapM (pd st n)).map .list
    | _ => none
  | _, _ => none
theorem dpAll_of {n : Nat} (ih : ∀ x d v, pd st n x = some d → RV K mg ρ H x v → Dp K H v d) : ∀ {xs : List Val} {ds : List PyData} {vs : List V}, xs.mapM (pd st n) = some ds → RVs K mg ρ H xs vs → DpAll K H vs ds
  | [], ds, vs, h, r => by
    rw [RVs] at r
    subst r
    simp at h
    subst h
    exact .nil
  | x :: xs, ds, vs, h, r => by
    rw [RVs] at r
    obtain ⟨v, r', rfl, r1, r2⟩ := r
    rw [List.mapM_cons] at h
    cases q1 : pd st n x with
    | none => rw [q1] at h; cases h
    | some d =>
      rw [q1] at h
      cases q2 : xs.mapM (pd st n) with
      | none => rw [q2] at h; cases h
      | some ds' =>
        rw [q2] at h
        cases h
        exact .cons (ih x d v q1 r1) (dpAll_of ih q2 r2)
theorem dp_of (rs : RS K mg ρ H st) : ∀ (n : Nat) (x : Val) (d : PyData) (v : V), pd st n x = some d → RV K mg ρ H x v → Dp K H v d := by
  intro n
  induction n with
  | zero =>
    intro x d v h r
    cases x with
    | non => rw [RV] at r; subst r; cases h; exact .non
    | bl b => rw [RV] at r; subst r; cases h; exact .bl b
    | int b => rw [RV] at r; subst r; cases h; exact .int b
    | str b => rw [RV] at r; subst r; cases h; exact .str b
    | _ => cases h
  | succ n ih =>
    intro x d v h r
    cases x with
    | non => rw [RV] at r; subst r; cases h; exact .non
    | bl b => rw [RV] at r; subst r; cases h; exact .bl b
    | int b => rw [RV] at r; subst r; cases h; exact .int b
    | str b => rw [RV] at r; subst r; cases h; exact .str b
    | tup xs =>
      obtain ⟨a, vs, rfl, h1, h2⟩ := r.seqT (.inl rfl)
      have h' : (xs.mapM (pd st n)).map PyData.tuple = some d := h
      cases q : xs.mapM (pd st n) with
      | none => rw [q] at h'; cases h'
      | some ds => rw [q] at h'; cases h'; exact .tup h1 (dpAll_of ih q h2)
    | kt xs =>
      obtain ⟨a, vs, rfl, h1, h2⟩ := r.seqT (.inr rfl)
      have h' : (xs.mapM (pd st n)).map PyData.tuple = some d := h
      cases q : xs.mapM (pd st n) with
      | none => rw [q] at h'; cases h'
      | some ds => rw [q] at h'; cases h'; exact .tup h1 (dpAll_of ih q h2)
    | loc l =>
      rw [RV] at r
      obtain ⟨a, rfl, ha⟩ := r
      have h' : (match st[l]? with | some (.lst xs) => (xs.mapM (pd st n)).map PyData.list | _ => none) = some d := h
      cases q0 : st[l]? with
      | none => rw [q0] at h'; cases h'
      | some ob =>
        rw [q0] at h'
        cases ob with
        | lst xs =>
          dsimp only at h'
          obtain ⟨vs, w1, w2⟩ := rs.at q0 ha
          cases q : xs.mapM (pd st n) with
          | none => rw [q] at h'; cases h'
          | some ds => rw [q] at h'; cases h'; exact .lst (SqL.of w1) (dpAll_of ih q w2)
        | _ => cases h'
    | _ => cases h
def deep : Nat := 40
def oEqD (neg : Bool) : Val → Val → Sto → R Val := fun x y st => match pd st deep x, pd st deep y with
  | some d, some e => if SeqAt.shaped d && SeqAt.shaped e then .ok (.bl (if neg then !PyData.eqv d e else PyData.eqv d e)) st else .stuck
  | _, _ => .stuck
def strPair : Val → Val → Option (Str × Str)
  | .str a, .str b => some (a, b)
  | _, _ => none
def oEq (neg : Bool) : Val → Val → Sto → R Val := fun x y st => match strPair x y with
  | some p => .ok (.bl (if neg then !decide (p.1 = p.2) else decide (p.1 = p.2))) st
  | none => oEqD neg x y st
theorem strPair_some {x y : Val} {p : Str × Str} (h : strPair x y = some p) : x = .str p.1 ∧ y = .str p.2 := by
  unfold strPair at h
  split at h
  · cases h; exact ⟨rfl, rfl⟩
  · cases h
theorem ok_eq (hc : S.calm = true) : OpOk P w K mg base S (compareOp .Eq) (oEq false) := fun X hX => by
  have eK := hX.K
  subst eK
  refine ⟨_, op_eq.or (op_eqD (hX.room hc).units), fun ρ H st x y v u W σ Q rs rv ru p => ?_⟩
  unfold oEq at p
  split at p
  · rename_i q hq
    obtain ⟨e1, e2⟩ := strPair_some hq
    subst e1 e2
    rw [RV] at rv ru
    refine .inl ⟨by rw [rv, ru]; rfl, p ρ H _ .refl rs ?_⟩
    rw [RV, rv, ru]
    simp
  · unfold oEqD at p
    split at p
    · rename_i d e hd he
      split at p
      · rename_i hs
        obtain ⟨s1, s2⟩ := Bool.and_eq_true_iff.mp hs
        exact .inr ⟨d, e, dp_of rs _ _ _ _ hd rv, dp_of rs _ _ _ _ he ru, s1, s2, p ρ H _ .refl rs rvb⟩
      · exact p.elim
    · exact p.elim
theorem ok_ne (hc : S.calm = true) : OpOk P w K mg base S (compareOp .NotEq) (oEq true) := fun X hX => by
  have eK := hX.K
  subst eK
  refine ⟨_, op_ne.or (op_neD (hX.room hc).units), fun ρ H st x y v u W σ Q rs rv ru p => ?_⟩
  unfold oEq at p
  split at p
  · rename_i q hq
    obtain ⟨e1, e2⟩ := strPair_some hq
    subst e1 e2
    rw [RV] at rv ru
    refine .inl ⟨by rw [rv, ru]; rfl, p ρ H _ .refl rs ?_⟩
    rw [RV, rv, ru]
    simp
  · unfold oEqD at p
    split at p
    · rename_i d e hd he
      split at p
      · rename_i hs
        obtain ⟨s1, s2⟩ := Bool.and_eq_true_iff.mp hs
        exact .inr ⟨d, e, dp_of rs _ _ _ _ hd rv, dp_of rs _ _ _ _ he ru, s1, s2, p ρ H _ .refl rs rvb⟩
      · exact p.elim
    · exact p.elim
end
end Sm

/-! The Sim layer: t[::-1] of a tuple. -/
namespace HT
open PySem PySem.Spec PyProof.Rows L2
section
variable {prog : Program} {w : World} {A : Around} {E : Value → Shared → Prop} {s : Shared}
theorem places_rev (n : Nat) : Builtin.Slice.slicePlaces ((n : Int) - 1) (-1) (-1) = n := by
  unfold Builtin.Slice.slicePlaces
  have h1 : ¬ ((-1 : Int) > 0) := by omega
  rw [if_neg h1]
  by_cases h : (n : Int) - 1 > -1
  · rw [if_pos h]
    have e : ((n : Int) - 1 - -1 - 1) / - -1 + 1 = n := by
      rw [show (- -1 : Int) = 1 from rfl, Int.ediv_one]; omega
    rw [e]; rfl
  · rw [if_neg h]
    have : n = 0 := by omega
    subst this
    rfl
theorem adjust_rev (n : Nat) : Builtin.Slice.sliceAdjust none none (-1) (n : Int) = ((n : Int) - 1, -1) := rfl
theorem sliceApplied_rev {sl : Addr} {vl vu vs : Value} {n : Nat} {Q : Int × Int × Nat → Shared → Prop} (hs : s.heap.IsSliceOf sl vl vu vs) (pl : IsPart vl none) (pu : IsPart vu none) (ps : IsPart vs (some (-1)))
    (h : Q ((n : Int) - 1, -1, n) s) : wpAny (model prog w) A (Builtin.Slice.sliceApplied (.ref sl) (pure (n : Int))) Q E s := by
  obtain ⟨os, hos, hcs, hds⟩ := id hs
  unfold Builtin.Slice.sliceApplied Builtin.Slice.sliceFields
  refine wpAny_bind (wpAny_bind (wpAny_field hos hds (x := vl) rfl (wpAny_bind (wpAny_field hos hds (x := vu) rfl (wpAny_bind (wpAny_field hos hds (x := vs) rfl (wpAny_pure ?_)))))))
  refine wpAny_bind (slicePart_ ps ?_)
  show wpAny _ _ (if ((-1 : Int) == 0) = true then _ else _) _ _ s
  rw [if_neg (by decide)]
  refine wpAny_bind (slicePart_ pl (wpAny_bind (slicePart_ pu (wpAny_bind (wpAny_pure ?_)))))
  show wpAny _ _ (match Builtin.Slice.sliceAdjust none none (-1) (n : Int) with | (lo, hi) => pure (lo, (-1 : Int), Builtin.Slice.slicePlaces lo hi (-1))) _ _ s
  rw [adjust_rev n]
  show wpAny _ _ (pure ((n : Int) - 1, (-1 : Int), Builtin.Slice.slicePlaces ((n : Int) - 1) (-1) (-1))) _ _ s
  rw [places_rev]
  exact wpAny_pure h
theorem fm_congr {α β : Type} {f g : α → Option β} : ∀ {l : List α}, (∀ x ∈ l, f x = g x) → l.filterMap f = l.filterMap g
  | [], _ => rfl
  | x :: l, h => by rw [List.filterMap_cons, List.filterMap_cons, h x List.mem_cons_self, fm_congr fun y hy => h y (List.mem_cons_of_mem _ hy)]
theorem pick_revL : ∀ (xs : List Value), ((List.range xs.length).filterMap fun (m : Nat) => xs[(((xs.length : Nat) : Int) - 1 + (m : Int) * (-1)).toNat]?) = xs.reverse := by
  intro xs
  have e : ((List.range xs.length).filterMap fun (m : Nat) => xs[(((xs.length : Nat) : Int) - 1 + (m : Int) * (-1)).toNat]?) = (List.range xs.length).filterMap fun (m : Nat) => xs.reverse[m]? := by
    refine fm_congr fun m hm => ?_
    have hm' : m < xs.length := List.mem_range.mp hm
    rw [List.getElem?_reverse hm']
    congr 1
    omega
  rw [e]
  have : ∀ (ys : List Value), (List.range ys.length).filterMap (fun m => ys[m]?) = ys := by
    intro ys
    induction ys with
    | nil => rfl
    | cons y ys ih =>
      rw [List.length_cons, List.range_succ_eq_map, List.filterMap_cons]
      simp only [List.getElem?_cons_zero, List.filterMap_map]
      rw [show ((fun m => (y :: ys)[m]?) ∘ Nat.succ) = fun m => ys[m]? from rfl, ih]
  have h := this xs.reverse
  rwa [List.length_reverse] at h
theorem pick_rev (xs : Array Value) : ((List.range xs.size).filterMap fun (m : Nat) => xs[(((xs.size : Nat) : Int) - 1 + (m : Int) * (-1)).toNat]?).toArray = xs.toList.reverse.toArray := by
  have := pick_revL xs.toList
  rw [← this]
  simp
theorem getItem_tuple_rev {t sl : Addr} {items : Array Value} {vl vu vs : Value} {Q : Value → Shared → Prop} (ht : IsTup s.heap t items) (hs : s.heap.IsSliceOf sl vl vu vs) (pl : IsPart vl none) (pu : IsPart vu none) (ps : IsPart vs (some (-1)))
    (h : Q (.ref s.heap.objs.size) { s with heap := s.heap.push { cls := .type "tuple", data := .seq items.toList.reverse.toArray } })
    (hsz : items.size ≤ sizeLine) : wpAny (model prog w) A (getItem (.ref t) (.ref sl)) Q E s := by
  have htake : sizeOk (.seq items.toList.reverse.toArray) := by
    show items.toList.reverse.toArray.size ≤ sizeLine
    simpa using hsz
  obtain ⟨os, hos, hcs, hds⟩ := id hs
  have hTs : s.TypeIs (.ref sl) "slice" := ⟨os, hos, hcs⟩
  unfold getItem
  try with_reducible refine wpAny_holding ?_
  first | refine wpAny_bind (wpAny_pure ?_) | skip
  refine wpAny_bind (wpAny_sequenceKey ht.typeIs (by decide) ?_)
  refine wpAny_bind (wpAny_callSpecial?_slot (name := Str.ofString "__getitem__") ht.typeIs PyProof.Rows.slot_tuple_getitem
    (wpAny_call_entry PyProof.Rows.slot_tuple_getitem ht.typeIs entry_tuple_getitem ?_ (args_tuple_getitem _ _)))
  show wpAny _ _ (Builtin.Tuple.tupleItemsOf (.ref t) >>= _) _ _ s
  refine wpAny_bind (tupleItemsOf_ ht ?_)
  refine wpAny_bind (wpAny_typeOf hTs ?_)
  rw [if_pos (by decide)]
  refine wpAny_bind (sliceApplied_rev hs pl pu ps ?_)
  have hno : ¬ ((((items.size : Nat) : Int) - 1 == 0 && (-1 : Int) == 1 && items.size == items.size) = true) := by
    intro q
    rw [Bool.and_eq_true, Bool.and_eq_true] at q
    exact absurd q.1.2 (by decide)
  show wpAny _ _ (if (((items.size : Nat) : Int) - 1 == 0 && (-1 : Int) == 1 && items.size == items.size) = true then _ else _) _ _ s
  rw [if_neg hno, pick_rev]
  first
    | exact wpAny_bind (m := Builtin.Tuple.tupleExact _) (wpAny_newObj_type (wpAny_pure ⟨_, rfl, wpAny_pure h⟩) htake)
    | exact wpAny_bind (m := Builtin.Tuple.tupleExact _) (wpAny_newObj_type (wpAny_bind (wpAny_pure (wpAny_pure ⟨_, rfl, wpAny_pure h⟩))) htake)
    | exact wpAny_bind (wpAny_bind (m := Builtin.Tuple.tupleExact _) (wpAny_newObj_type (wpAny_pure (wpAny_pure ⟨_, rfl, wpAny_pure h⟩)) htake))
    | exact wpAny_bind (wpAny_bind (m := Builtin.Tuple.tupleExact _) (wpAny_newObj_type (wpAny_pure ⟨_, rfl, wpAny_pure h⟩) htake))
end
end HT
namespace Sm
open PySem PySem.Spec PyProof.Rows L2
/-- t[::-1], a tuple or a list -/
def tRevX (K : PySem.W.Frag) (te : TE) : TE := fun σ H Q => te σ H fun x H1 => (∃ a xs, x = .ref a ∧ SqL K H1 a xs ∧ ∀ p, H1 p = none → Q (.ref p) (upd H1 p (.lst xs.reverse))) ∨
  ∃ a xs, x = .ref a ∧ SqT K H1 a xs ∧ ∀ p, H1 p = none → Q (.ref p) (upd H1 p (.tup xs.reverse))
theorem pe_revX {X : Cx} {e : Expr} {te : TE} {k : Nat} {p1 p2 p3 pos : Pos} (he : PE X e te) : PE X (.Subscript e (.Slice none none (some (.UnaryOp .USub (.Constant (.int 1) k p1) p2)) p3) pos) (tRevX X.K te) := by
  refine ⟨fun pins s σ H Q I h => ?_⟩
  refine Subscript_ (thn (he.run pins s σ H _ I h) fun v s1 ⟨x, H1, I1, r1, q1⟩ => ?_)
  have hst : PO X (some (.UnaryOp .USub (.Constant (.int 1) k p1) p2)) (tPart (tUn (rU fun i => .int (-i)) (tC (.int 1)))) := po_some (pe_un un_neg pe_int)
  refine wpAny_Slice (thn (po_none.run pins s1 σ H1 (fun o H2 => o = none ∧ H2 = H1) I1 ⟨rfl, rfl⟩) fun vl s2 ⟨l, H2, I2, pl, el, e2⟩ => ?_)
  subst el e2
  refine thn (po_none.run pins s2 σ H2 (fun o H3 => o = none ∧ H3 = H2) I2 ⟨rfl, rfl⟩) fun vu s3 ⟨u, H3, I3, pu, eu, e3⟩ => ?_
  subst eu e3
  refine thn (hst.run pins s3 σ H3 (fun o H4 => o = some (-1) ∧ H4 = H3) I3 ⟨1, rfl, -1, rfl, rfl, rfl⟩) fun vs s4 ⟨o, H4, I4, ps, eo, e4⟩ => ?_
  subst eo e4
  have I5 : Inv X pins σ H4 { s4 with heap := s4.heap.push { cls := .type "slice", data := .fields #[vl, vu, vs] } } := I4.kept (t' := s4.toks) fun b ob q => Heap.get?_push_of_some _ q
  show wpAny (model X.prog X.w) X.A (subscriptTail e (.Slice none none (some (.UnaryOp .USub (.Constant (.int 1) k p1) p2)) p3) v (.ref s4.heap.objs.size)) (EP X pins σ Q) X.xe { s4 with heap := s4.heap.push { cls := .type "slice", data := .fields #[vl, vu, vs] } }
  rcases q1 with ⟨a, xs, ex, hx, q⟩ | ⟨a, xs, ex, hx, q⟩
  · subst ex
    cases r1
    obtain ⟨its, r, ht, hz⟩ := I5.list hx
    have hlen := r.length
    refine tail_any (ops := [.ref a, .ref s4.heap.objs.size]) ht.isList.typeIs (PySem.slot_list_getitem.lookup) ?_ (by with_unfolding_all rfl)
    refine wpAny_getItem_list_slice ht.isList (Heap.IsSliceOf.new _ vl vu vs) pl pu ps (by decide) ?_ (by rw [List.size_toArray]; omega)
    rw [PySem.W.krv_pick]
    refine ⟨.ref _, _, I5.laid (t' := s4.toks) (o := .lst xs.reverse) (fun b ob q => Heap.get?_push_of_some _ q) (Nat.le_refl _) ?_, rfl, q _ (I5.hok.fresh (Nat.le_refl _))⟩
    exact ⟨by rw [List.length_reverse]; exact hz, _, 0, r.reverse, Heap.get?_push_size _ rfl⟩
  · subst ex
    cases r1
    obtain ⟨its, r, ht, hz⟩ := I5.tuple hx
    have hlen := r.length
    refine tail_any (ops := [.ref a, .ref s4.heap.objs.size]) ht.typeIs (PyProof.Rows.slot_tuple_getitem.lookup) ?_ (by with_unfolding_all rfl)
    refine HT.getItem_tuple_rev ht (Heap.IsSliceOf.new _ vl vu vs) pl pu ps ?_ (by rw [List.size_toArray]; omega)
    refine ⟨.ref _, _, I5.laid (t' := s4.toks) (o := .tup xs.reverse) (fun b ob q => Heap.get?_push_of_some _ q) (Nat.le_refl _) ?_, rfl, q _ (I5.hok.fresh (Nat.le_refl _))⟩
    exact ⟨by rw [List.length_reverse]; exact hz, _, r.reverse, IsTup.new _ _⟩
end Sm

/-! The Sim layer, part 10: subscripts, slices, stores, built-ins, methods of lists. -/
namespace Sm
open PySem L2

/-- what a sequence holds -/
def seqOf (st : Sto) : Val → Option (List Val)
  | .tup xs => some xs
  | .kt xs => some xs
  | .loc l => match st[l]? with
    | some (.lst xs) => some xs
    | _ => none
  | .scr ns => some (ns.map Val.int)
  | _ => none
section
variable {P : Program} {w : World} {K : PySem.W.Frag} {mg : Str → Option Value} {base : Heap} {S : Sc}
variable {e a b c : Expr} {es : List Expr} {ma mb mc : Ex} {aa ab : Ax} {pos pos' : Pos}
variable {ρ ρ' : List Addr} {H H' : Hp} {W : WX} {σ : L2.St} {st : Sto} {xi : Option XI} {env : Env} {Q : VK}
theorem seqOf_ok {x : Val} {xs : List Val} {v : V} (rs : RS K mg ρ H st) (h : seqOf st x = some xs) (r : RV K mg ρ H x v) : ∃ a vs, v = .ref a ∧ (SqL K H a vs ∨ SqT K H a vs) ∧ RVs K mg ρ H xs vs := by
  cases x with
  | tup ys => cases h; obtain ⟨a, vs, h1, h2, h3⟩ := r.seqT (.inl rfl); exact ⟨a, vs, h1, .inr h2, h3⟩
  | kt ys => cases h; obtain ⟨a, vs, h1, h2, h3⟩ := r.seqT (.inr rfl); exact ⟨a, vs, h1, .inr h2, h3⟩
  | loc l =>
    rw [RV] at r
    obtain ⟨a, rfl, ha⟩ := r
    unfold seqOf at h
    cases q : st[l]? with
    | none => simp only [q] at h; cases h
    | some ob =>
      cases ob with
      | lst ys =>
        simp only [q] at h
        cases h
        obtain ⟨vs, h1, h2⟩ := rs.at q ha
        exact ⟨a, vs, rfl, .inl (SqL.of h1), h2⟩
      | _ => simp only [q] at h; cases h
  | scr ns =>
    cases h
    rw [RV] at r
    obtain ⟨a, rfl, ha⟩ := r
    exact ⟨a, _, rfl, .inl ha.sq, RVs.ints⟩
  | _ => cases h
/-- a list only -/
def lstOf (st : Sto) : Val → Option (List Val)
  | .loc l => match st[l]? with
    | some (.lst xs) => some xs
    | _ => none
  | .scr ns => some (ns.map Val.int)
  | _ => none
def tupOf : Val → Option (List Val)
  | .tup xs => some xs
  | .kt xs => some xs
  | _ => none
theorem tupOf_ok {x : Val} {xs : List Val} {v : V} (h : tupOf x = some xs) (r : RV K mg ρ H x v) : ∃ a vs, v = .ref a ∧ SqT K H a vs ∧ RVs K mg ρ H xs vs := by
  cases x with
  | tup ys => cases h; exact r.seqT (.inl rfl)
  | kt ys => cases h; exact r.seqT (.inr rfl)
  | _ => cases h
theorem lstOf_ok {x : Val} {xs : List Val} {v : V} (rs : RS K mg ρ H st) (h : lstOf st x = some xs) (r : RV K mg ρ H x v) : ∃ a vs, v = .ref a ∧ SqL K H a vs ∧ RVs K mg ρ H xs vs := by
  cases x with
  | loc l =>
    rw [RV] at r
    obtain ⟨a, rfl, ha⟩ := r
    unfold lstOf at h
    cases q : st[l]? with
    | none => simp only [q] at h; cases h
    | some ob =>
      cases ob with
      | lst ys =>
        simp only [q] at h
        cases h
        obtain ⟨vs, h1, h2⟩ := rs.at q ha
        exact ⟨a, vs, rfl, SqL.of h1, h2⟩
      | _ => simp only [q] at h; cases h
  | scr ns =>
    cases h
    rw [RV] at r
    obtain ⟨a, rfl, ha⟩ := r
    exact ⟨a, _, rfl, ha.sq, RVs.ints⟩
  | _ => cases h
theorem RVs.at {xs : List Val} {vs : List V} (h : RVs K mg ρ H xs vs) {i : Nat} {x : Val} (hi : xs[i]? = some x) : ∃ v, vs[i]? = some v ∧ RV K mg ρ H x v := by
  induction xs generalizing vs i with
  | nil => cases hi
  | cons y ys ih =>
    rw [RVs] at h
    obtain ⟨v, r, rfl, h1, h2⟩ := h
    cases i with
    | zero => cases hi; exact ⟨v, rfl, h1⟩
    | succ i => exact ih h2 hi
/-! ### o[i] -/
def IxOk (P : Program) (w : World) (K : PySem.W.Frag) (mg : Str → Option Value) (base : Heap) (S : Sc) (o : Val → Val → Sto → R Val) : Prop := ∀ X, XOk P w K mg base S X → ∃ r : R2, IxR X r ∧
  ∀ (ρ : List Addr) (H : Hp) (st : Sto) (x y : Val) (v u : V) (W : WX) (σ : L2.St) (Q : VK), RS K mg ρ H st → RV K mg ρ H x v → RV K mg ρ H y u → PostE K mg W ρ H σ Q (o x y st) → r v u H Q
theorem simE_ix {o : Val → Val → Sto → R Val} (ho : IxOk P w K mg base S o) (ha : SimE P w K mg base S a ma) (hb : SimE P w K mg base S b mb) (hs : PlainIx b) : SimE P w K mg base S (.Subscript a b pos) (eOp o ma mb) := fun X W hX tk => by
  obtain ⟨r, h1, h2⟩ := ho X hX
  exact PE.imp (pe_ix h1 (ha X W hX tk) (hb X W hX tk) hs) fun σ H Q ⟨ρ, st, env, rs, re, h⟩ => ⟨ρ, st, env, rs, re, Post.bind h fun ρ1 H1 st1 x v _ e1 rs1 rv p1 => ⟨ρ1, st1, env, rs1, re.mono e1, Post.bind p1 fun ρ2 H2 st2 y u _ e2 rs2 ru p2 =>
    h2 ρ2 H2 st2 x y v u W σ Q rs2 (rv.mono e2) ru p2⟩⟩
def oIx : Val → Val → Sto → R Val := fun x y st => match seqOf st x, y with
  | some xs, .int i => match atI xs i with
    | some z => .ok z st
    | none => .stuck
  | _, _ => .stuck
theorem ok_ix : IxOk P w K mg base S oIx := fun X hX => by
  have eK := hX.K
  subst eK
  refine ⟨_, ix_list.or ix_tup, fun ρ H st x y v u W σ Q rs rv ru p => ?_⟩
  unfold oIx at p
  split at p
  · rename_i xs i hx
    split at p
    · rename_i z hz
      obtain ⟨a, vs, rfl, h1, h2⟩ := seqOf_ok rs hx rv
      rw [RV] at ru
      have hz' : ∃ u, atI vs i = some u ∧ RV X.K mg ρ H z u := by
        unfold atI at hz ⊢
        rw [← h2.length] at hz
        cases q : ixN vs.length i with
        | none => rw [q] at hz; cases hz
        | some j => rw [q] at hz; exact h2.at hz
      obtain ⟨u', h3, h4⟩ := hz'
      rcases h1 with h1 | h1
      · exact .inl ⟨a, vs, i, u', rfl, ru, h1, h3, p ρ H _ .refl rs h4⟩
      · exact .inr ⟨a, vs, i, u', rfl, ru, h1, h3, p ρ H _ .refl rs h4⟩
    · exact p.elim
  · exact p.elim
/-! ### o[lo:hi] -/
abbrev Ox := Env → Sto → R (Option Int)
def oNoP : Ox := fun _ st => .ok none st
def oPart (a : Ex) : Ox := fun env st => (a env st).bind fun x st1 => match x with
  | .int i => .ok (some i) st1
  | _ => .stuck
def SimO (P : Program) (w : World) (K : PySem.W.Frag) (mg : Str → Option Value) (base : Heap) (S : Sc) (e : Option Expr) (m : Ox) : Prop := ∀ X W, XOk P w K mg base S X → Takes X W → PO X e (fun σ H Q => ∃ ρ st env, RS K mg ρ H st ∧ RE K mg ρ H S.xi env σ ∧
  Post K mg (fun _ _ a b => a = b) W ρ H σ Q (m env st))
theorem PO.imp {X : Cx} {e : Option Expr} {t t' : TO} (h : PO X e t) (f : ∀ σ H Q, t' σ H Q → t σ H Q) : PO X e t' := ⟨fun pins s σ H Q I q => h.run pins s σ H Q I (f _ _ _ q)⟩
theorem simO_none : SimO P w K mg base S none oNoP := fun X W hX tk => PO.imp po_none fun σ H Q ⟨ρ, st, env, rs, re, h⟩ => h ρ H none .refl rs rfl
theorem simO_some (ha : SimE P w K mg base S a ma) : SimO P w K mg base S (some a) (oPart ma) := fun X W hX tk => PO.imp (po_some (ha X W hX tk)) fun σ H Q ⟨ρ, st, env, rs, re, h⟩ =>
  ⟨ρ, st, env, rs, re, Post.bind h fun ρ1 H1 st1 x v _ e1 rs1 rv p1 => by
    cases x with
    | int i =>
      rw [RV] at rv
      exact ⟨i, rv, p1 ρ1 H1 _ .refl rs1 rfl⟩
    | _ => exact p1.elim⟩
def cutL {α : Type} (xs : List α) (lo hi : Option Int) : List α := (xs.drop (HT.sIx xs.length 0 lo)).take (HT.sIx xs.length xs.length hi - HT.sIx xs.length 0 lo)
def eSl (o : Ex) (lo hi : Ox) : Ex := fun env st => (o env st).bind fun x st1 => (lo env st1).bind fun l st2 => (hi env st2).bind fun h st3 => match tupOf x with
  | some xs => .ok (if HT.sIx xs.length 0 l = 0 ∧ HT.sIx xs.length xs.length h = xs.length then x else .tup (cutL xs l h)) st3
  | none => match lstOf st3 x with
    | some xs => .ok (.loc st3.length) (st3 ++ [.lst (cutL xs l h)])
    | none => .stuck
theorem SlR.or' {X : Cx} {r r' : V → Option Int → Option Int → Hp → VK → Prop} (h : SlR X r) (h' : SlR X r') : SlR X (fun x lo hi H Q => r x lo hi H Q ∨ r' x lo hi H Q) := L2.SlR.or h h'
theorem RVs.cut {xs : List Val} {vs : List V} (h : RVs K mg ρ H xs vs) (lo hi : Option Int) : RVs K mg ρ H (cutL xs lo hi) (cutV vs lo hi) := by
  unfold cutL cutV
  rw [h.length]
  exact (h.drop _).take _
theorem simE_sl {lo hi : Option Expr} {ml mh : Ox} {p2 : Pos} (ha : SimE P w K mg base S a ma) (hl : SimO P w K mg base S lo ml) (hh : SimO P w K mg base S hi mh) : SimE P w K mg base S (.Subscript a (.Slice lo hi none p2) pos) (eSl ma ml mh) := fun X W hX tk => by
  have eK := hX.K
  subst eK
  refine PE.imp (pe_slice (sl_tupA.or sl_list) (ha X W hX tk) (hl X W hX tk) (hh X W hX tk)) fun σ H Q ⟨ρ, st, env, rs, re, h⟩ => ⟨ρ, st, env, rs, re, Post.bind h fun ρ1 H1 st1 x v _ e1 rs1 rv p1 => ⟨ρ1, st1, env, rs1, re.mono e1,
    Post.bind p1 fun ρ2 H2 st2 l l' _ e2 rs2 el p2 => ⟨ρ2, st2, env, rs2, (re.mono e1).mono e2, Post.bind p2 fun ρ3 H3 st3 h h' _ e3 rs3 eh p3 => ?_⟩⟩⟩
  subst el eh
  have rv3 := (rv.mono e2).mono e3
  cases q : tupOf x with
  | some xs =>
    simp only [q] at p3
    obtain ⟨a, vs, rfl, h1, h2⟩ := tupOf_ok q rv3
    refine .inl ⟨a, vs, rfl, h1, fun hc => ?_, fun hc p hp => ?_⟩
    · rw [h2.length] at hc
      rw [if_pos hc] at p3
      exact p3 ρ3 H3 _ .refl rs3 rv3
    · rw [h2.length] at hc
      rw [if_neg hc] at p3
      obtain ⟨f1, f2, f3⟩ := newTup rs3 hp (h2.cut l h)
      exact p3 ρ3 _ _ f1 f2 f3
  | none =>
    simp only [q] at p3
    cases q2 : lstOf st3 x with
    | some xs =>
      simp only [q2] at p3
      obtain ⟨a, vs, rfl, h1, h2⟩ := lstOf_ok rs3 q2 rv3
      refine .inr ⟨a, vs, rfl, h1, fun p hp => ?_⟩
      obtain ⟨f1, f2, f3⟩ := newLst rs3 hp (h2.cut l h)
      exact p3 _ _ _ f1 f2 f3
    | none => simp only [q2] at p3; exact p3.elim
def eRev (o : Ex) : Ex := fun env st => (o env st).bind fun x st1 => match tupOf x with
  | some xs => .ok (.tup xs.reverse) st1
  | none => match lstOf st1 x with
    | some xs => .ok (.loc st1.length) (st1 ++ [.lst xs.reverse])
    | none => .stuck
theorem simE_rev {k : Nat} {p1 p2 p3 : Pos} (ha : SimE P w K mg base S a ma) : SimE P w K mg base S (.Subscript a (.Slice none none (some (.UnaryOp .USub (.Constant (.int 1) k p1) p2)) p3) pos) (eRev ma) := fun X W hX tk => by
  have eK := hX.K
  subst eK
  refine PE.imp (pe_revX (ha X W hX tk)) fun σ H Q ⟨ρ, st, env, rs, re, h⟩ => ⟨ρ, st, env, rs, re, Post.bind h fun ρ1 H1 st1 x v _ e1 rs1 rv p1 => ?_⟩
  cases q : tupOf x with
  | some xs =>
    simp only [q] at p1
    obtain ⟨a, vs, rfl, h1, h2⟩ := tupOf_ok q rv
    refine .inr ⟨a, vs, rfl, h1, fun p hp => ?_⟩
    obtain ⟨f1, f2, f3⟩ := newTup rs1 hp h2.reverse
    exact p1 _ _ _ f1 f2 f3
  | none =>
    simp only [q] at p1
    cases q2 : lstOf st1 x with
    | some xs =>
      simp only [q2] at p1
      obtain ⟨a, vs, rfl, h1, h2⟩ := lstOf_ok rs1 q2 rv
      refine .inl ⟨a, vs, rfl, h1, fun p hp => ?_⟩
      obtain ⟨f1, f2, f3⟩ := newLst rs1 hp h2.reverse
      exact p1 _ _ _ f1 f2 f3
    | none => simp only [q2] at p1; exact p1.elim
/-! ### o[i] = v -/
theorem simS_sub {o i : Expr} {mo mi : Ex} {s : Val → Val → Val → Sto → R Unit} (hk : SetOk P w K mg base S s) (ha : SimE P w K mg base S a ma) (ho : SimE P w K mg base S o mo) (hi : SimE P w K mg base S i mi) (hs : ∀ env, swapsWithSole [.Subscript o i pos'] a pos.line env = pure false)
    (hw : ∀ env : PySem.Env, env.scope = S.sc → swappedStores [.Subscript o i pos'] a env = pure none) (h1 : ∀ env, (assignEach [.Subscript o i pos'] env).map (·.2) = [assign (.Subscript o i pos') env])
    (hA : ∀ env v, assign (.Subscript o i pos') env v = (do
      let ov ← holding [v] (eval o env)
      let iv ← holding [v, ov] (eval i env)
      standAt pos'
      holding [v, ov, iv] (setItem ov iv v)
      release [v, ov, iv] [])) : SimS P w K mg base S (.Assign [.Subscript o i pos'] a pos) (sSub s mo mi ma) := fun X W hX tk => by
  obtain ⟨r, k1, k2⟩ := hk X hX
  refine PS.imp (ps_asg (ha X W hX tk) (pg_sub (ho X W hX tk) (hi X W hX tk) k1 (hA X.env)) (hs _) (hw _ hX.scope.symm) (h1 _)) fun D σ H ⟨ρ, st, env, rs, re, h⟩ => ⟨ρ, st, env, rs, re, PostS.bind h re fun ρ1 H1 st1 x v _ e1 rs1 rv p1 =>
    ⟨ρ1, st1, env, rs1, re.mono e1, PostS.bind p1 (re.mono e1) fun ρ2 H2 st2 y u _ e2 rs2 ru p2 => ⟨ρ2, st2, env, rs2, (re.mono e1).mono e2, PostS.bind p2 ((re.mono e1).mono e2) fun ρ3 H3 st3 z t _ e3 rs3 rz p3 => ?_⟩⟩⟩
  have re3 := ((re.mono e1).mono e2).mono e3
  refine k2 ρ3 H3 st3 y z x u t v W σ (fun _ H4 => D.nx σ H4) rs3 (ru.mono e3) rz ((rv.mono e2).mono e3) ?_
  exact PostS.bind (rel := fun _ _ _ _ => True) p3 re3 fun ρ4 H4 st4 x4 _ _ e4 rs4 _ p4 => p4 ρ4 H4 σ .refl rs4 (re3.mono e4)
def kSetL : Val → Val → Val → Sto → R Unit := fun x y z st => match x, y with
  | .loc l, .int i => match st[l]? with
    | some (.lst xs) => match ixN xs.length i with
      | some j => .ok () (st.set l (.lst (xs.set j z)))
      | none => .stuck
    | _ => .stuck
  | _, _ => .stuck
/-- a list that is written -/
theorem putLst {l : Nat} {a : Addr} {xs : List Val} {vs : List V} (rs : RS K mg ρ H st) (ha : ρ[l]? = some a) {ob : Ob} (ho : st[l]? = some ob) (rv : RVs K mg ρ H xs vs) : Ext ρ H ρ (upd H a (.lst vs)) ∧ RS K mg ρ (upd H a (.lst vs)) (st.set l (.lst xs)) :=
  have ex : Ext ρ H ρ (upd H a (.lst vs)) := rs.ext ha
  ⟨ex, rs.set ha ⟨vs, upd_same, rv.mono ex⟩⟩
theorem RVs.setAt {xs : List Val} {vs : List V} (h : RVs K mg ρ H xs vs) {x : Val} {v : V} (r : RV K mg ρ H x v) (i : Nat) : RVs K mg ρ H (xs.set i x) (vs.set i v) := by
  induction xs generalizing vs i with
  | nil => rw [RVs] at h; subst h; exact .nil
  | cons y ys ih =>
    rw [RVs] at h
    obtain ⟨u, r', rfl, h1, h2⟩ := h
    cases i with
    | zero => exact .cons r h2
    | succ i => exact .cons h1 (ih h2 i)
theorem ok_setL : SetOk P w K mg base S kSetL := fun X hX => ⟨_, set_list, fun ρ H st x y z a b c W σ Q rs ra rb rc p => by
  cases x with
  | loc l =>
    cases y with
    | int i =>
      cases q : st[l]? with
      | none => simp only [kSetL, q] at p; exact p.elim
      | some ob =>
        cases ob with
        | lst xs =>
          simp only [kSetL, q] at p
          cases hj : ixN xs.length i with
          | none => simp only [hj] at p; exact p.elim
          | some j =>
            simp only [hj] at p
            rw [RV] at ra
            rw [RV] at rb
            obtain ⟨p', rfl, hp⟩ := ra
            obtain ⟨vs, q1, q2⟩ := rs.at q hp
            obtain ⟨f1, f2⟩ := putLst rs hp q (q2.setAt rc j)
            exact ⟨p', vs, i, j, rfl, rb, q1, by rw [q2.length]; exact hj, p ρ _ () f1 f2 trivial⟩
        | _ => simp only [kSetL, q] at p; exact p.elim
    | _ => exact p.elim
  | _ => exact p.elim⟩
end
end Sm

/-! The Sim layer, part 11: built-ins, methods of lists, in. -/
namespace Sm
open PySem L2
section
variable {P : Program} {w : World} {K : PySem.W.Frag} {mg : Str → Option Value} {base : Heap} {S : Sc}
variable {e a b c : Expr} {es : List Expr} {ma mb mc : Ex} {aa ab : Ax} {pos pos' : Pos}
variable {ρ ρ' : List Addr} {H H' : Hp} {W : WX} {σ : L2.St} {st : Sto} {xi : Option XI} {env : Env} {Q : VK}
theorem RVs.one {x : Val} {vs : List V} (h : RVs K mg ρ H [x] vs) : ∃ v, vs = [v] ∧ RV K mg ρ H x v := by
  rw [RVs] at h
  obtain ⟨v, r, rfl, h1, h2⟩ := h
  rw [RVs] at h2
  subst h2
  exact ⟨v, rfl, h1⟩
theorem RVs.two {x y : Val} {vs : List V} (h : RVs K mg ρ H [x, y] vs) : ∃ v u, vs = [v, u] ∧ RV K mg ρ H x v ∧ RV K mg ρ H y u := by
  rw [RVs] at h
  obtain ⟨v, r, rfl, h1, h2⟩ := h
  obtain ⟨u, rfl, h3⟩ := h2.one
  exact ⟨v, u, rfl, h1, h3⟩
theorem RVs.zero {vs : List V} (h : RVs K mg ρ H [] vs) : vs = [] := by rw [RVs] at h; exact h
/-- of one value -/
def one' (o : Val → Sto → R Val) : List Val → Sto → R Val
  | [x], st => o x st
  | _, _ => .stuck
def two' (o : Val → Val → Sto → R Val) : List Val → Sto → R Val
  | [x, y], st => o x y st
  | _, _ => .stuck
theorem ClOk.one {f : Value} {o : Val → Sto → R Val} (h : ∀ X, XOk P w K mg base S X → ∃ r : List V → Hp → VK → Prop, CallR X f r ∧
    ∀ (ρ : List Addr) (H : Hp) (st : Sto) (x : Val) (v : V) (W : WX) (σ : L2.St) (Q : VK), RS K mg ρ H st → RV K mg ρ H x v → PostE K mg W ρ H σ Q (o x st) → r [v] H Q) : ClOk P w K mg base S f (one' o) := fun X hX => by
  obtain ⟨r, h1, h2⟩ := h X hX
  refine ⟨r, h1, fun ρ H st xs vs W σ Q rs rv p => ?_⟩
  match xs, rv, p with
  | [x], rv, p => obtain ⟨v, rfl, r⟩ := rv.one; exact h2 ρ H st x v W σ Q rs r p
  | [], _, p => exact p.elim
  | _ :: _ :: _, _, p => exact p.elim
theorem ClOk.two {f : Value} {o : Val → Val → Sto → R Val} (h : ∀ X, XOk P w K mg base S X → ∃ r : List V → Hp → VK → Prop, CallR X f r ∧
    ∀ (ρ : List Addr) (H : Hp) (st : Sto) (x y : Val) (v u : V) (W : WX) (σ : L2.St) (Q : VK), RS K mg ρ H st → RV K mg ρ H x v → RV K mg ρ H y u → PostE K mg W ρ H σ Q (o x y st) → r [v, u] H Q) : ClOk P w K mg base S f (two' o) := fun X hX => by
  obtain ⟨r, h1, h2⟩ := h X hX
  refine ⟨r, h1, fun ρ H st xs vs W σ Q rs rv p => ?_⟩
  match xs, rv, p with
  | [x, y], rv, p => obtain ⟨v, u, rfl, r1, r2⟩ := rv.two; exact h2 ρ H st x y v u W σ Q rs r1 r2 p
  | [], _, p => exact p.elim
  | [_], _, p => exact p.elim
  | _ :: _ :: _ :: _, _, p => exact p.elim
def oLen : Val → Sto → R Val := fun x st => match seqOf st x with
  | some xs => .ok (.int xs.length) st
  | none => match x with
    | .str z => if z.length ≤ 16777216 then .ok (.int z.length) st else .stuck
    | _ => .stuck
theorem ok_len : ClOk P w K mg base S (.builtin "len") (one' oLen) := .one fun X hX => by
  have eK := hX.K
  subst eK
  refine ⟨_, call_len, fun ρ H st x v W σ Q rs rv p => ?_⟩
  unfold oLen at p
  cases q : seqOf st x with
  | some xs =>
    simp only [q] at p
    obtain ⟨a, vs, rfl, h1, h2⟩ := seqOf_ok rs q rv
    refine ⟨.ref a, vs.length, rfl, ?_, by rw [h2.length]; exact p ρ H _ .refl rs rvi⟩
    rcases h1 with h1 | h1
    · exact .inl ⟨vs, h1, rfl⟩
    · exact .inr ⟨vs, h1, rfl⟩
  | none =>
    simp only [q] at p
    cases x with
    | str z =>
      simp only at p
      split at p
      · rename_i hz
        rw [RV] at rv
        exact ⟨v, z.length, rfl, by rw [rv]; exact ⟨line_le hz, rfl⟩, p ρ H _ .refl rs rvi⟩
      · exact p.elim
    | _ => exact p.elim
def oAbs : Val → Sto → R Val
  | .int i, st => .ok (.int (if i < 0 then -i else i)) st
  | _, _ => .stuck
theorem ok_abs : ClOk P w K mg base S (.builtin "abs") (one' oAbs) := .one fun X hX => ⟨_, call_abs, fun ρ H st x v W σ Q rs rv p => by
  cases x with
  | int i => rw [RV] at rv; exact ⟨i, by rw [rv], p ρ H _ .refl rs rvi⟩
  | _ => exact p.elim⟩
def oInt1 : Val → Sto → R Val
  | .int i, st => .ok (.int i) st
  | .bl b, st => .ok (.int (if b then 1 else 0)) st
  | _, _ => .stuck
theorem ok_int1 : ClOk P w K mg base S (.type "int") (one' oInt1) := .one fun X hX => ⟨_, call_int1, fun ρ H st x v W σ Q rs rv p => by
  cases x with
  | int i => rw [RV] at rv; exact .inl ⟨i, by rw [rv], p ρ H _ .refl rs rvi⟩
  | bl i => rw [RV] at rv; exact .inr ⟨i, by rw [rv], p ρ H _ .refl rs rvi⟩
  | _ => exact p.elim⟩
def oMax2 : Val → Val → Sto → R Val
  | .int i, .int j, st => .ok (.int (if j > i then j else i)) st
  | _, _, _ => .stuck
def oMin2 : Val → Val → Sto → R Val
  | .int i, .int j, st => .ok (.int (if j < i then j else i)) st
  | _, _, _ => .stuck
theorem ok_max2 (hc : S.calm = true) : ClOk P w K mg base S (.builtin "max") (two' oMax2) := .two fun X hX => ⟨_, call_max2 (by rw [← hX.calm]; exact hc), fun ρ H st x y v u W σ Q rs rv ru p => by
  cases x with
  | int i =>
    cases y with
    | int j => rw [RV] at rv ru; exact ⟨i, j, by rw [rv, ru], p ρ H _ .refl rs rvi⟩
    | _ => exact p.elim
  | _ => exact p.elim⟩
theorem ok_min2 (hc : S.calm = true) : ClOk P w K mg base S (.builtin "min") (two' oMin2) := .two fun X hX => ⟨_, call_min2 (by rw [← hX.calm]; exact hc), fun ρ H st x y v u W σ Q rs rv ru p => by
  cases x with
  | int i =>
    cases y with
    | int j => rw [RV] at rv ru; exact ⟨i, j, by rw [rv, ru], p ρ H _ .refl rs rvi⟩
    | _ => exact p.elim
  | _ => exact p.elim⟩
def oTuple : Val → Sto → R Val := fun x st => match tupOf x with
  | some _ => .ok x st
  | none => match lstOf st x with
    | some xs => .ok (.tup xs) st
    | none => .stuck
theorem ok_tuple : ClOk P w K mg base S (.type "tuple") (one' oTuple) := .one fun X hX => by
  have eK := hX.K
  subst eK
  refine ⟨_, call_tuple_of, fun ρ H st x v W σ Q rs rv p => ?_⟩
  unfold oTuple at p
  cases q : tupOf x with
  | some xs =>
    simp only [q] at p
    obtain ⟨a, vs, rfl, h1, h2⟩ := tupOf_ok q rv
    exact ⟨a, vs, rfl, .inr ⟨h1, p ρ H _ .refl rs rv⟩⟩
  | none =>
    simp only [q] at p
    cases q2 : lstOf st x with
    | some xs =>
      simp only [q2] at p
      obtain ⟨a, vs, rfl, h1, h2⟩ := lstOf_ok rs q2 rv
      refine ⟨a, vs, rfl, .inl ⟨h1, fun l hl => ?_⟩⟩
      obtain ⟨f1, f2, f3⟩ := newTup rs hl h2
      exact p _ _ _ f1 f2 f3
    | none => simp only [q2] at p; exact p.elim
def oList : Val → Sto → R Val := fun x st => match seqOf st x with
  | some xs => .ok (.loc st.length) (st ++ [.lst xs])
  | none => .stuck
theorem ok_list : ClOk P w K mg base S (.type "list") (one' oList) := .one fun X hX => by
  have eK := hX.K
  subst eK
  refine ⟨_, call_list_of, fun ρ H st x v W σ Q rs rv p => ?_⟩
  unfold oList at p
  cases q : seqOf st x with
  | some xs =>
    simp only [q] at p
    obtain ⟨a, vs, rfl, h1, h2⟩ := seqOf_ok rs q rv
    refine ⟨a, vs, rfl, h1, fun l hl => ?_⟩
    obtain ⟨f1, f2, f3⟩ := newLst rs hl h2
    exact p _ _ _ f1 f2 f3
  | none => simp only [q] at p; exact p.elim
/-! ### repr -/
def oRepr : Val → Sto → R Val := fun x st => match pd st deep x with
  | some d => if d.showable && !d.hasDict && decide (d.depth ≤ 60) && decide (d.shown.length ≤ 16777216) then .ok (.str d.shown) st else .stuck
  | none => .stuck
def rRepD (K : PySem.W.Frag) : List V → Hp → VK → Prop := fun vs H Q => ∃ v d, vs = [v] ∧ Dp K H v d ∧ d.showable = true ∧ d.hasDict = false ∧ d.depth ≤ 60 ∧ d.shown.length ≤ 16777216 ∧ Q (.str d.shown) H
theorem call_repD {X : Cx} (hg : X.A.guards = some []) (hu : X.A.units + 64 < cLine) : CallR X (.builtin "repr") (rRepD X.K) := by
  intro pins s σ H xs us Q I r h
  obtain ⟨v, d, rfl, hd, h1, h2, h3, h4, q⟩ := h
  obtain ⟨u, rfl, r1⟩ := vals1 r
  obtain ⟨as, hr⟩ := Dp.reads I d v u hd r1
  have hz : d.shown.length ≤ sizeLine := line_le h4
  have fin : ∀ (t : Tok) (h' : Heap) (tk : Nat), (∀ b o, s.heap.get? b = some o → h'.get? b = some o) → EP X pins σ Q (.str d.shown t) { s with heap := h', toks := tk } := fun t h' tk hk => ⟨.str d.shown, H, I.kept hk, ⟨t, rfl⟩, q⟩
  cases hd with
  | non =>
    cases r1
    simp only [PyData.shown] at fin
    exact PySem.P.repr_of_none (fin _ _ _ fun _ _ e => e)
  | bl b =>
    cases r1
    simp only [PyData.shown] at fin
    exact PySem.P.repr_of_bool (fin _ _ _ fun _ _ e => e)
  | int i =>
    obtain ⟨t, rfl⟩ := r1
    simp only [PyData.shown] at fin
    exact PySem.P.repr_of_int (by simpa [PyData.showable] using h1) (fin _ _ _ fun _ _ e => e)
  | str x =>
    obtain ⟨t, rfl⟩ := r1
    simp only [PyData.shown] at fin hz
    exact PySem.P.repr_of_str (fin _ _ _ fun _ _ e => e) hz
  | lst a b =>
    cases r1
    exact repr_of_reads' hr h1 (PyData.noDict_hsm h2) hg (by omega) (fun _ _ e => e) (fun h' u tk hk => fin u h' tk hk) hz
  | tup a b =>
    cases r1
    exact repr_of_reads' hr h1 (PyData.noDict_hsm h2) hg (by omega) (fun _ _ e => e) (fun h' u tk hk => fin u h' tk hk) hz
theorem ok_repr (hc : S.calm = true) : ClOk P w K mg base S (.builtin "repr") (one' oRepr) := .one fun X hX => by
  have eK := hX.K
  subst eK
  refine ⟨_, call_repD hX.gd (by have := (hX.room hc).un; omega), fun ρ H st x v W σ Q rs rv p => ?_⟩
  unfold oRepr at p
  split at p
  · rename_i d hd
    split at p
    · rename_i hh
      simp only [Bool.and_eq_true, Bool.not_eq_true', decide_eq_true_eq] at hh
      exact ⟨v, d, rfl, dp_of rs _ _ _ _ hd rv, hh.1.1.1, hh.1.1.2, hh.1.2, hh.2, p ρ H _ .refl rs (by rw [RV])⟩
    · exact p.elim
  · exact p.elim
/-! ### in a list -/
def oIn (neg : Bool) : Val → Val → Sto → R Val := fun x y st => match pd st deep x, pd st deep y with
  | some d, some (.list ds) => if SeqAt.shaped d && SeqAt.shaped (.list ds) then .ok (.bl (if neg then !(ds.any fun z => PyData.eqv z d) else ds.any fun z => PyData.eqv z d)) st else .stuck
  | _, _ => .stuck
theorem ok_in (hc : S.calm = true) : OpOk P w K mg base S (compareOp .In) (oIn false) := fun X hX => by
  have eK := hX.K
  subst eK
  refine ⟨_, op_inD (by have := (hX.room hc).un; omega), fun ρ H st x y v u W σ Q rs rv ru p => ?_⟩
  unfold oIn at p
  split at p
  · rename_i d ds hd he
    split at p
    · rename_i hs
      obtain ⟨s1, s2⟩ := Bool.and_eq_true_iff.mp hs
      exact ⟨d, ds, dp_of rs _ _ _ _ hd rv, dp_of rs _ _ _ _ he ru, s1, s2, p ρ H _ .refl rs rvb⟩
    · exact p.elim
  · exact p.elim
theorem ok_notin (hc : S.calm = true) : OpOk P w K mg base S (compareOp .NotIn) (oIn true) := fun X hX => by
  have eK := hX.K
  subst eK
  refine ⟨_, op_notInD (by have := (hX.room hc).un; omega), fun ρ H st x y v u W σ Q rs rv ru p => ?_⟩
  unfold oIn at p
  split at p
  · rename_i d ds hd he
    split at p
    · rename_i hs
      obtain ⟨s1, s2⟩ := Bool.and_eq_true_iff.mp hs
      exact ⟨d, ds, dp_of rs _ _ _ _ hd rv, dp_of rs _ _ _ _ he ru, s1, s2, p ρ H _ .refl rs rvb⟩
    · exact p.elim
  · exact p.elim
/-! ### products -/
def oMul : Val → Val → Sto → R Val
  | .int i, .int j, st => if (Builtin.Int.intBits i : Int) + (Builtin.Int.intBits j : Int) ≤ 134217728 then .ok (.int (i * j)) st else .stuck
  | x, .int k, st => match tupOf x with
    | some xs => if xs ≠ [] ∧ 2 ≤ k ∧ k ≤ 1000 ∧ xs.length ≤ 1000 then .ok (.tup (List.replicate k.toNat xs).flatten) st else .stuck
    | none => .stuck
  | _, _, _ => .stuck
theorem RVs.rep {xs : List Val} {vs : List V} (h : RVs K mg ρ H xs vs) : ∀ k : Nat, RVs K mg ρ H (List.replicate k xs).flatten (List.replicate k vs).flatten
  | 0 => .nil
  | k + 1 => by
    rw [List.replicate_succ, List.replicate_succ, List.flatten_cons, List.flatten_cons]
    exact h.append (RVs.rep h k)
/-! ### classes of built-in kinds -/
def tyName : Val → Sto → Option String
  | .non, _ => some "NoneType"
  | .bl _, _ => some "bool"
  | .int _, _ => some "int"
  | .str _, _ => some "str"
  | .tup _, _ => some "tuple"
  | .kt _, _ => some "tuple"
  | .loc l, st => match st[l]? with
    | some (.lst _) => some "list"
    | some (.dK _) => some "dict"
    | some (.dT _) => some "dict"
    | _ => none
  | .scr _, _ => some "list"
  | _, _ => none
theorem tyX_of {x : Val} {t : String} {v : V} (rs : RS K mg ρ H st) (h : tyName x st = some t) (r : RV K mg ρ H x v) : TyX K H v (.type t) := by
  cases x with
  | non => cases h; rw [RV] at r; subst r; exact .base .non
  | bl b => cases h; rw [RV] at r; subst r; exact .base (.bl b)
  | int b => cases h; rw [RV] at r; subst r; exact .base (.int b)
  | str b => cases h; rw [RV] at r; subst r; exact .base (.str b)
  | tup xs => cases h; rw [RV] at r; obtain ⟨a, vs, rfl, h1, _⟩ := r; exact .base (.tup h1)
  | kt xs =>
    cases h
    rw [RV] at r
    obtain ⟨a, vs, rfl, ⟨o, its, n, h1, h2, _⟩, _⟩ := r
    exact .kTuple h1 h2
  | loc l =>
    rw [RV] at r
    obtain ⟨a, rfl, ha⟩ := r
    cases q : st[l]? with
    | none => simp only [tyName, q] at h; cases h
    | some ob =>
      cases ob with
      | lst xs => simp only [tyName, q] at h; cases h; obtain ⟨vs, h1, _⟩ := rs.at q ha; exact .base (.lst h1)
      | dK xs => simp only [tyName, q] at h; cases h; obtain ⟨vs, h1, _⟩ := rs.at q ha; exact .base (.dK h1)
      | dT xs => simp only [tyName, q] at h; cases h; obtain ⟨vs, h1, _⟩ := rs.at q ha; exact .base (.dT h1)
      | ins _ _ _ => simp only [tyName, q] at h; cases h
  | scr ns =>
    cases h
    rw [RV] at r
    obtain ⟨a, rfl, h1⟩ := r
    rcases h1 with ⟨o, h1⟩ | ⟨o, its, n, h1, h2, _⟩
    · exact .base (.frz h1)
    · exact .kList h1 h2
  | _ => cases h
def kitOk (a b : String) : Option Bool := kitB a b
def oIsi : Val → Val → Sto → R Val := fun x y st => match tyName x st, y with
  | some t, .ty n => match kitB t n with
    | some b => .ok (.bl b) st
    | none => .stuck
  | _, _ => .stuck
theorem ok_isi : ClOk P w K mg base S (.builtin "isinstance") (two' oIsi) := .two fun X hX => by
  have eK := hX.K
  subst eK
  refine ⟨_, call_isi, fun ρ H st x y v u W σ Q rs rv ru p => ?_⟩
  unfold oIsi at p
  split at p
  · rename_i t n ht
    split at p
    · rename_i b hb
      rw [RV] at ru
      subst ru
      exact ⟨v, .ty n, .type t, .type n, b, rfl, .ty n, tyX_of rs ht rv, kit_ty hb, p ρ H _ .refl rs rvb⟩
    · exact p.elim
  · exact p.elim
/-- a type's name -/
theorem simE_ty {x : Str} {n : String} (hg : S.sc.names.lookup x = some .globalImplicit) (hm : mg x = none) (hv : bootBuiltins x = some (.type n)) (hn : x ≠ "__name__" := by decide) (hd : (x == ("__debug__" : Str)) = false := by decide) :
    SimE P w K mg base S (.Name x pos) (eC (.ty n)) := fun X W hX tk =>
  PE.imp (pe_bltn (v := .ty n) (show X.env.scope.names.lookup x = _ by rw [← hX.scope]; exact hg) (by rw [← hX.mg]; exact hm) hv rfl hn hd) fun σ H Q ⟨ρ, st, env, rs, re, h⟩ => h ρ H _ .refl rs (by rw [RV])
end
end Sm

/-! The Sim layer, part 12: methods of lists, products, augmented stores. -/
namespace Sm
open PySem L2
def isL (st : Sto) (x : Val) : Bool := (lstOf st x).isSome
def eLm (o : Val → List Val → Sto → R Val) (mo : Ex) (aa : Ax) : Ex := fun env st => (mo env st).bind fun x st1 => if isL st1 x then (aa env st1).bind fun xs st2 => o x xs st2 else .stuck
section
variable {P : Program} {w : World} {K : PySem.W.Frag} {mg : Str → Option Value} {base : Heap} {S : Sc}
variable {e a b c : Expr} {es : List Expr} {ma mb mc : Ex} {aa ab : Ax} {pos pos' : Pos}
variable {ρ ρ' : List Addr} {H H' : Hp} {W : WX} {σ : L2.St} {st : Sto} {xi : Option XI} {env : Env} {Q : VK}
def MtOk (P : Program) (w : World) (K : PySem.W.Frag) (mg : Str → Option Value) (base : Heap) (S : Sc) (id : String) (o : Val → List Val → Sto → R Val) : Prop := ∀ X, XOk P w K mg base S X → ∃ r : V → List V → Hp → VK → Prop, MtR X id r ∧
  ∀ (ρ : List Addr) (H : Hp) (st : Sto) (x : Val) (xs : List Val) (v : V) (vs : List V) (W : WX) (σ : L2.St) (Q : VK), RS K mg ρ H st → RV K mg ρ H x v → RVs K mg ρ H xs vs → PostE K mg W ρ H σ Q (o x xs st) → r v vs H Q
theorem isL_ty {x : Val} {v : V} (rs : RS K mg ρ H st) (h : isL st x = true) (r : RV K mg ρ H x v) : tyV K "list" v H := by
  unfold isL at h
  cases q : lstOf st x with
  | none => rw [q] at h; cases h
  | some xs =>
    obtain ⟨a, vs, rfl, h1, _⟩ := lstOf_ok rs q r
    exact .inl ⟨rfl, vs, h1⟩
theorem simE_lm0 {x : Str} {id : String} {o : Val → List Val → Sto → R Val} {apos : Pos} (hk : MtOk P w K mg base S id o) (slot : Slot "list" x id) (hty : typeOf (.builtin id) = pure (.type "method_descriptor")) (ho : SimE P w K mg base S a ma)
    (hb : ∀ env, attributeBase a x env (eval a env) = eval a env) (hl : (apos.endLine == pos.line) = true) : SimE P w K mg base S (.Call (.Attribute a x apos) [] [] pos) (eLm o ma aNil) := fun X W hX tk => by
  obtain ⟨r, h1, h2⟩ := hk X hX
  have eK := hX.K
  subst eK
  refine PE.imp (pe_bm0 PySem.F.plainAttrs_list slot hty h1 (ho X W hX tk) (hb _) hl) fun σ H Q ⟨ρ, st, env, rs, re, h⟩ => ⟨ρ, st, env, rs, re, Post.bind h fun ρ1 H1 st1 x v _ e1 rs1 rv p1 => ?_⟩
  split at p1
  · rename_i hL
    exact ⟨isL_ty rs1 hL rv, h2 ρ1 H1 st1 x [] v [] W σ Q rs1 rv .nil p1⟩
  · exact p1.elim
theorem simE_lm {x : Str} {id : String} {o : Val → List Val → Sto → R Val} {apos : Pos} (hk : MtOk P w K mg base S id o) (slot : Slot "list" x id) (hty : typeOf (.builtin id) = pure (.type "method_descriptor")) (ho : SimE P w K mg base S a ma) (ha : SimA P w K mg base S (e :: es) aa)
    (hb : ∀ env, attributeBase a x env (eval a env) = eval a env)
    (hfew : ∀ env, ((backTo pos (starEach (e :: es) env)).all (fun x => !x.1) && (backToKw pos (keywordEach [] env)).all (fun x => x.1.isSome)
      && decide ((e :: es).length + ([] : List Keyword).length + (if ([] : List Keyword).isEmpty then 0 else 1) < 30)) = true)
    (hl : (apos.endLine == pos.line) = true) (hs : ∀ env, starEach (e :: es) env = (false, eval e env) :: starEach es env) (hpl : ∀ env, (backTo pos (starEach es env)).any (·.1) = false) :
    SimE P w K mg base S (.Call (.Attribute a x apos) (e :: es) [] pos) (eLm o ma aa) := fun X W hX tk => by
  obtain ⟨r, h1, h2⟩ := hk X hX
  have eK := hX.K
  subst eK
  refine PE.imp (pe_bm PySem.F.plainAttrs_list slot hty h1 (ho X W hX tk) (ha X W hX tk) (hb _) (hfew _) hl (hs _) (hpl _)) fun σ H Q ⟨ρ, st, env, rs, re, h⟩ => ⟨ρ, st, env, rs, re, Post.bind h fun ρ1 H1 st1 x v _ e1 rs1 rv p1 => ?_⟩
  split at p1
  · rename_i hL
    exact ⟨isL_ty rs1 hL rv, ρ1, st1, env, rs1, re.mono e1, Post.bind p1 fun ρ2 H2 st2 xs vs _ e2 rs2 rvs p2 => h2 ρ2 H2 st2 x xs v vs W σ Q rs2 (rv.mono e2) rvs p2⟩
  · exact p1.elim
def mAppend : Val → List Val → Sto → R Val := fun x xs st => match x, xs with
  | .loc l, [y] => match st[l]? with
    | some (.lst zs) => if zs.length < 16777216 then .ok .non (st.set l (.lst (zs ++ [y]))) else .stuck
    | _ => .stuck
  | _, _ => .stuck
theorem lt_line {n : Nat} (h : n < 16777216) : n < sizeLine := by rw [sizeLine_eq]; exact h
theorem ok_append : MtOk P w K mg base S "list.append" mAppend := fun X hX => ⟨_, mt_append, fun ρ H st x xs v vs W σ Q rs rv rvs p => by
  unfold mAppend at p
  split at p
  · rename_i l y
    split at p
    · rename_i zs hst
      split at p
      · rename_i hz
        rw [RV] at rv
        obtain ⟨p', rfl, hp⟩ := rv
        obtain ⟨u, rfl, ru⟩ := rvs.one
        obtain ⟨us, q1, q2⟩ := rs.at hst hp
        obtain ⟨f1, f2⟩ := putLst rs hp hst (q2.append (.cons ru .nil))
        exact ⟨p', us, u, rfl, rfl, q1, by rw [q2.length]; exact lt_line hz, p ρ _ _ f1 f2 (by rw [RV])⟩
      · exact p.elim
    · exact p.elim
  · exact p.elim⟩
def mPop : Val → List Val → Sto → R Val := fun x xs st => match x, xs with
  | .loc l, [] => match st[l]? with
    | some (.lst zs) => match zs[zs.length - 1]? with
      | some y => .ok y (st.set l (.lst zs.dropLast))
      | none => .stuck
    | _ => .stuck
  | .loc l, [.int i] => match st[l]? with
    | some (.lst zs) => match ixN zs.length i with
      | some k => match zs[k]? with
        | some y => if zs.length ≤ 16777216 then .ok y (st.set l (.lst (zs.eraseIdx k))) else .stuck
        | none => .stuck
      | none => .stuck
    | _ => .stuck
  | _, _ => .stuck
theorem RVs.eraseIdx : ∀ {xs : List Val} {vs : List V} (i : Nat), RVs K mg ρ H xs vs → RVs K mg ρ H (xs.eraseIdx i) (vs.eraseIdx i)
  | [], vs, i, h => by rw [RVs] at h; subst h; exact .nil
  | x :: xs, vs, 0, h => by rw [RVs] at h; obtain ⟨v, r, rfl, h1, h2⟩ := h; exact h2
  | x :: xs, vs, i + 1, h => by rw [RVs] at h; obtain ⟨v, r, rfl, h1, h2⟩ := h; exact .cons h1 (h2.eraseIdx i)
theorem RVs.dropLast {xs : List Val} {vs : List V} (h : RVs K mg ρ H xs vs) : RVs K mg ρ H xs.dropLast vs.dropLast := by
  rw [List.dropLast_eq_take, List.dropLast_eq_take, h.length]
  exact h.take _
theorem MtM.r {X : Cx} {id : String} {r : V → List V → Hp → VK → Prop} (h : MtM X id r) : MtR X id r := h
theorem ok_pop : MtOk P w K mg base S "list.pop" mPop := fun X hX => ⟨_, (MtM.r mt_pop).or (MtM.r mt_popAt), fun ρ H st x xs v vs W σ Q rs rv rvs p => by
  unfold mPop at p
  split at p
  · rename_i l
    split at p
    · rename_i zs hst
      split at p
      · rename_i y hy
        rw [RV] at rv
        obtain ⟨p', rfl, hp⟩ := rv
        have := rvs.zero
        subst this
        obtain ⟨us, q1, q2⟩ := rs.at hst hp
        obtain ⟨u, q3, q4⟩ := q2.at hy
        obtain ⟨f1, f2⟩ := putLst rs hp hst q2.dropLast
        exact .inl ⟨p', us, u, rfl, rfl, q1, by rw [q2.length]; exact q3, p ρ _ _ f1 f2 (q4.mono f1)⟩
      · exact p.elim
    · exact p.elim
  · rename_i l i
    split at p
    · rename_i zs hst
      split at p
      · rename_i k hk
        split at p
        · rename_i y hy
          split at p
          · rename_i hz
            rw [RV] at rv
            obtain ⟨p', rfl, hp⟩ := rv
            obtain ⟨u1, rfl, ru⟩ := rvs.one
            rw [RV] at ru
            subst ru
            obtain ⟨us, q1, q2⟩ := rs.at hst hp
            obtain ⟨u, q3, q4⟩ := q2.at hy
            obtain ⟨f1, f2⟩ := putLst rs hp hst (q2.eraseIdx k)
            obtain ⟨g1, g2, g3, g4⟩ := ixN_seq hk
            exact .inr ⟨p', us, i, k, u, rfl, rfl, q1, by omega, by omega, by rw [q2.length]; exact g1, q3, p ρ _ _ f1 f2 (q4.mono f1)⟩
          · exact p.elim
        · exact p.elim
      · exact p.elim
    · exact p.elim
  · exact p.elim⟩
/-! ### products -/
theorem ok_mul : OpOk P w K mg base S (binaryOp .Mult) oMul := fun X hX => by
  have eK := hX.K
  subst eK
  refine ⟨_, op_mulX.or op_repT, fun ρ H st x y v u W σ Q rs rv ru p => ?_⟩
  unfold oMul at p
  split at p
  · rename_i i j
    split at p
    · rename_i hh
      rw [RV] at rv
      rw [RV] at ru
      exact .inl ⟨i, j, rv, ru, hh, p ρ H _ .refl rs rvi⟩
    · exact p.elim
  · rename_i k _
    split at p
    · rename_i xs hx
      split at p
      · rename_i hh
        obtain ⟨h1, h2, h3, h4⟩ := hh
        rw [RV] at ru
        obtain ⟨a, vs, rfl, q1, q2⟩ := tupOf_ok hx rv
        refine .inr ⟨a, k, vs, rfl, ru, q1, fun e => h1 ?_, h2, h3, by rw [q2.length]; exact h4, fun p' hp => ?_⟩
        · have := q2.length
          rw [e] at this
          exact List.length_eq_zero_iff.mp this.symm
        · obtain ⟨f1, f2, f3⟩ := newTup rs hp (q2.rep k.toNat)
          exact p _ _ _ f1 f2 f3
      · exact p.elim
    · exact p.elim
  · exact p.elim
/-! ### a op= b -/
theorem ipOpI {op : Operator} {C : Int → Int → Prop} {g : Int → Int → V} {g' : Int → Int → Val} {c : Int → Int → Bool} (h : ∀ X : Cx, OpR X (inplaceOp op) (rI C g)) (hc : ∀ i j, c i j = true → C i j) (hg : ∀ ρ H i j, RV K mg ρ H (g' i j) (g i j)) : IpOk P w K mg base S op (oInt g' c) := fun X hX => by
  obtain ⟨r, h1, h2⟩ := okOpI (S := S) (P := P) (w := w) (K := K) (mg := mg) (base := base) h hc hg X hX
  exact ⟨r, h1, h2⟩
theorem ipOpI0 {op : Operator} {g : Int → Int → V} {g' : Int → Int → Val} (h : ∀ X : Cx, OpR X (inplaceOp op) (rI0 g)) (hg : ∀ ρ H i j, RV K mg ρ H (g' i j) (g i j)) : IpOk P w K mg base S op (oInt g' fun _ _ => true) := fun X hX => by
  obtain ⟨r, h1, h2⟩ := okOpI0 (S := S) (P := P) (w := w) (K := K) (mg := mg) (base := base) h hg X hX
  exact ⟨r, h1, h2⟩
theorem ip_ok_add : IpOk P w K mg base S .Add (oInt (fun i j => .int (i + j)) fun _ _ => true) := ipOpI0 (fun _ => iop_add) fun _ _ _ _ => rvi
theorem ip_ok_sub : IpOk P w K mg base S .Sub (oInt (fun i j => .int (i - j)) fun _ _ => true) := ipOpI0 (fun _ => iop_sub) fun _ _ _ _ => rvi
theorem ip_ok_shr : IpOk P w K mg base S .RShift (oInt (fun i j => .int (i / 2 ^ j.toNat)) fun _ j => decide (0 ≤ j)) := ipOpI (fun _ => iop_shr) (fun _ _ h => of_decide_eq_true h) fun _ _ _ _ => rvi
theorem ip_ok_and : IpOk P w K mg base S .BitAnd (oInt (fun i j => .int (Builtin.bitAnd i j)) fun _ _ => true) := ipOpI0 (fun _ => iop_and) fun _ _ _ _ => rvi
theorem ip_ok_or : IpOk P w K mg base S .BitOr (oInt (fun i j => .int (Builtin.bitOr i j)) fun _ _ => true) := ipOpI0 (fun _ => iop_or) fun _ _ _ _ => rvi
theorem ip_ok_xor : IpOk P w K mg base S .BitXor (oInt (fun i j => .int (Builtin.bitXor i j)) fun _ _ => true) := ipOpI0 (fun _ => iop_xor) fun _ _ _ _ => rvi
/-! ### -a -/
def oNeg : Val → Sto → R Val
  | .int i, st => .ok (.int (-i)) st
  | _, _ => .stuck
theorem simE_neg (ha : SimE P w K mg base S a ma) : SimE P w K mg base S (.UnaryOp .USub a pos) (eUn oNeg ma) := fun X W hX tk =>
  PE.imp (pe_un un_neg (ha X W hX tk)) fun σ H Q ⟨ρ, st, env, rs, re, h⟩ => ⟨ρ, st, env, rs, re, Post.bind h fun ρ1 H1 st1 x v _ e1 rs1 rv p1 => by
    cases x with
    | int i => rw [RV] at rv; exact ⟨i, rv, p1 ρ1 H1 _ .refl rs1 rvi⟩
    | _ => exact p1.elim⟩
end
end Sm

/-! The Sim layer: own errors, whose base is an own class over Exception, and whose __init__ says super().__init__(x); self.x = x. -/
namespace Sm
open PySem PySem.Calls PyProof.Rows L2
/-! ### the text -/
def xA (pn : Str) (p1 p2 : Pos) : Arguments := { posonlyargs := [], args := [{ arg := "self", annotation := none, pos := p1 }, { arg := pn, annotation := none, pos := p2 }], vararg := none, kwonlyargs := [], kw_defaults := [], kwarg := none, defaults := [] }
def xB (pn : Str) (a1 a2 a3 a4 a5 a6 q1 q2 q3 q4 : Pos) : List Stmt := [.Expr (.Call (.Attribute (.Call (.Name "super" a1) [] [] a2) "__init__" a3) [.Name pn a4] [] a5) a6, .Assign [.Attribute (.Name "self" q1) pn q2] (.Name pn q3) q4]
def xS (pn : Str) : Scope := { kind := .function, names := [("self", .local), (pn, .local), ("__class__", .free), ("super", .globalImplicit)], isGenerator := false, isCoroutine := false, more := [] }
abbrev xTail (T : Addr) : List Value := [.ref T, .type "Exception", .type "BaseException", .type "object"]
structure ExTxt (P : Program) (K : PySem.W.Frag) (mg : Str → Option Value) (c pn : Str) (C T fI cc : Addr) : Prop where
  gC : mg c = some (.ref C)
  kC : PySem.W.keepIn K (.ref C) = true
  cls : ∃ nm q N bs sn sub ab col dd k0 k1 k2 k3 k5, K.lookup C = some (excClassObj nm q C N bs (xTail T) true sn sub ab col dd k0 k1 k2 k3 k5 "Exception.__new__")
  sa : PySem.W.findIn K (.ref C) "__setattr__" = some (some (.builtin "object.__setattr__"))
  noN : PySem.W.findIn K (.ref C) pn = some none
  iC : PySem.W.findIn K (.ref C) "__init__" = some (some (.ref fI))
  tF : PySem.W.typeIn K (.ref fI) = some (.type "function")
  sI : PySem.W.alongIn K "__init__" (xTail T) = some (some (.builtin "Exception.__init__"))
  no3 : PySem.W.nsIn K PySem.cStatics "thirdparty.any" = some none
  exC : PySem.W.subIn K (.ref C) (.type "BaseException") = some true
  tyC : PySem.W.typeIn K (.ref C) = some (.type "type")
  fn : ∃ (oc : Value) (od : Option Addr) (qual : Str) (p1 p2 a1 a2 a3 a4 a5 a6 q1 q2 q3 q4 : Pos) (doc pm : Value) (an : Option Addr) (cda : Addr) (ct : Value) (osl : Array (Option Value)) (ccl : Value) (cdd : Option Addr) (vs : Array Value) (ccs : Array (Option Value)) (file : Str) (tf : Tok),
    K.lookup fI = some ⟨oc, od, .func (PySem.W.fnX "__init__" qual (xA pn p1 p2) (xB pn a1 a2 a3 a4 a5 a6 q1 q2 q3 q4) (xS pn) [("__class__", cc)] .none .none doc pm an (.ref cda) ct), osl⟩ ∧ PySem.W.codeIn K (.ref cda) qual = true ∧
      K.lookup cda = some ⟨ccl, cdd, .fields vs, ccs⟩ ∧ vs[2]? = some (.str file tf) ∧ ((P.main.file : Str) == file) = true ∧ (a3.endLine == a5.line) = true
  cell : ∃ (cl : Value) (cld : Option Addr) (csl : Array (Option Value)), K.lookup cc = some ⟨cl, cld, .cell (some (.ref C)), csl⟩
  top : (P.main.scope.names.lookup ("super" : Str)).isSome = false
  sup : mg "super" = none
  pnc : pn = "at" ∨ pn = "word" ∨ pn = "public"
theorem pnc_ne {pn : Str} (h : pn = "at" ∨ pn = "word" ∨ pn = "public") : (pn == ("self" : Str)) = false ∧ (pn == ("__debug__" : Str)) = false ∧ (pn == ("__class__" : Str)) = false ∧ (pn == ("super" : Str)) = false := by
  rcases h with rfl | rfl | rfl <;> decide

theorem x_meth {pn : Str} {a1 a2 a3 a4 a5 : Pos} {env : PySem.Env} (hl : (a3.endLine == a5.line) = true) : eval (.Call (.Attribute (.Call (.Name "super" a1) [] [] a2) "__init__" a3) [.Name pn a4] [] a5) env = (do
      let ov ← attributeBase (.Call (.Name "super" a1) [] [] a2) "__init__" env (eval (.Call (.Name "super" a1) [] [] a2) env)
      standAt a3.atName
      let (f, first) ← holding [ov] (getMethod ov "__init__" (do return (← importBound (.Call (.Name "super" a1) [] [] a2) env).getD true))
      callWith a5 f first (backTo a5 (starEach [.Name pn a4] env)) []) := by
  have hp : ∀ b : Bool, methodCallPos b (.Call (.Name "super" a1) [] [] a2) env a3 a5 = pure a5 := fun b => by
    unfold methodCallPos
    rw [hl, Bool.or_true]
    rfl
  show (do
    let ov ← attributeBase (.Call (.Name "super" a1) [] [] a2) "__init__" env (eval (.Call (.Name "super" a1) [] [] a2) env)
    standAt a3.atName
    methodCall (.Call (.Name "super" a1) [] [] a2) "__init__" a3 a5 env ov 1 (backTo a5 (starEach [.Name pn a4] env)) []) = _
  unfold methodCall
  simp only [hp, pure_bind]
  rfl
/-! ### self.x = v on an error with an own base -/
section
open Builtin Builtin.ObjectAttr
variable {prog : Program} {w : World} {A : Around} {E : Value → Shared → Prop} {R : Result → Shared → Prop} {hp : Heap} {g : Array GenState} {d : Drawn} {t : Nat} {os : OsState}
theorem x_mro {K : PySem.W.Frag} {C T : Addr} {cd : ClassData} (hcd : PySem.W.clsIn K C = some cd) (hm : cd.mro = .ref C :: xTail T) {b : Value} (hb : (Value.ref C :: xTail T).contains b = true) : PySem.W.mroIn K C b = some true := by
  unfold PySem.W.mroIn
  rw [hcd, Option.bind_some, hm, if_neg (show ¬ (List.isEmpty (Value.ref C :: xTail T) = true) from Bool.false_ne_true), hb]
theorem x_tail {C T : Addr} (X : String) (h : ([Value.type "Exception", .type "BaseException", .type "object"] : List Value).contains (.type X) = true) : (Value.ref C :: xTail T).contains (.type X) = true := by
  rw [List.contains_cons, List.contains_cons, h, Bool.or_true, Bool.or_true]
theorem x_store {K : PySem.W.Frag} {name : Str} {tk : Tok} {v : Value} {x C T : Addr} {fv : Array Value} {cd : ClassData}
    (X : K.In hp) (hx : hp.get? x = some { cls := .ref C, data := .fields fv }) (hcd : PySem.W.clsIn K C = some cd) (hm : cd.mro = .ref C :: xTail T) (hh : cd.hasDict = true) (ha : PySem.W.findIn K (.ref C) name = some none)
    (hq : ∀ h' tk' dx, (∀ b o, b ≠ x → hp.get? b = some o → h'.get? b = some o) → hp.objs.size ≤ dx → dx ≠ x → h'.get? x = some { cls := .ref C, dict := some dx, data := .fields fv } →
      h'.Ns1 dx (fun y => if y = name then some v else none) → R (.ok (.ret .none)) ⟨h', g, d, tk', os⟩) :
    codeAny (model prog w) A (.call (.builtin "object.__setattr__") ⟨[.ref x, .str name tk, v], []⟩) R ⟨hp, g, d, t, os⟩ := by
  have I : PySem.W.InstAt hp x { cls := .ref C, data := .fields fv } C none := ⟨hx, rfl, rfl, trivial⟩
  have hxs : x ≠ hp.objs.size := Nat.ne_of_lt (Heap.lt_size hx)
  have SF := PySem.F.store_object
  have sub : PySem.W.Looks (model prog w) hp (isInstance (.ref x) (.type "object")) true := I.type.andThen (PySem.W.looks_mroIn X (x_mro hcd hm (x_tail "object" (by decide +kernel))))
  refine codeAny_call_builtin SF.slot.plain SF.entry (@PySem.W.check_slot (model prog w) _ _ ⟨hp, g, d, t, os⟩ "object.__setattr__" "object" "__setattr__" (.ref x) [.str name tk, v] [] _ SF.kind SF.split sub (SF.args (.ref x) (.str name tk) v) ?_)
  have hmr : PySem.W.Looks (model prog w) hp (mroOf (.ref C)) cd.mro := (PySem.W.looks_clsIn X hcd).andThen .now
  have L3 : PySem.W.Looks (model prog w) hp (storeTaker? none) none := .now
  have hpass : refuseLoop (.ref x) "__setattr__" cd.mro = pure () := by
    rw [hm, refuseLoop_ref, refuseLoop_ref]
    exact PySem.F.store_Exception.passes _
  have hcls : PySem.W.Looks (model prog w) hp (classData C) cd := PySem.W.looks_clsIn X hcd
  rw [PySem.W.osa_eq, refuse_eq]
  refine wpAny_bind (wpAny_bind (I.type.at (wpAny_bind (hmr.at ?_))))
  rw [hpass]
  refine wpAny_pure (wpAny_bind (I.type.at (wpAny_bind ((PySem.W.looks_findIn X ha).at (wpAny_bind (L3.at ?_))))))
  show wpAny _ _ (storeInOwnDict (.ref x) (.ref C) (.str name tk) name v false) _ _ _
  obtain ⟨nm, bs, mro, ns, qn, hd, sn, sb, ab, col, del⟩ := cd
  dsimp only at hh
  subst hh
  unfold storeInOwnDict ownDictForStores
  repeat (first | with_reducible refine HandSPX.store_in_new ?_ ?_ | with_reducible refine wpAny_loadPart_at hx ?_ | with_reducible refine hcls.at ?_ | wp_step)
  · exact ⟨_, #[], _, (Heap.get?_update_ne _ _ _ _ hxs.symm).trans (Heap.get?_push_at rfl rfl), rfl, fun e he => absurd he (by simp), fun _ => rfl⟩
  · intro h' tk' hn' hs
    have hx₁ : (hp.push { cls := .type "dict", data := .dict #[] }).get? x = some { cls := .ref C, data := .fields fv } := Heap.get?_push_of_some _ hx
    refine hq h' tk' hp.objs.size (fun b o hb ho => ?_) (Nat.le_refl _) hxs.symm ?_ hn'
    · exact (hs.2 b (Nat.ne_of_lt (Heap.lt_size ho))).trans ((Heap.get?_update_ne _ _ _ _ hb).trans (Heap.get?_push_of_some _ ho))
    · exact (hs.2 x hxs).trans (Heap.get?_update_self _ hx₁ rfl)
end
/-- what __init__ leaves of a fresh error at x -/
structure XEnd (h h' : Heap) (x C dx t1 : Addr) (pn : Str) (v : Value) : Prop where
  keep : ∀ b o, b ≠ x → h.get? b = some o → h'.get? b = some o
  obj : h'.get? x = some { cls := .ref C, dict := some dx, data := .fields #[.ref t1, .none, .none, .none, .bool false, .none] }
  dbig : h.objs.size ≤ dx
  dne : dx ≠ x
  ns : h'.Ns1 dx (fun y => if y = pn then some v else none)
structure XMade (h h' : Heap) (e C d : Addr) (pn : Str) (v : Value) : Prop where
  keep : ∀ b o, h.get? b = some o → h'.get? b = some o
  new : h.objs.size ≤ e
  obj : ∃ oe vs, h'.get? e = some oe ∧ oe.cls = .ref C ∧ oe.dict = some d ∧ oe.data = .fields vs ∧ vs[1]? = some .none
  dbig : h.objs.size ≤ d
  dne : d ≠ e
  ns : h'.Ns1 d (fun y => if y = pn then some v else none)
section
variable {prog : Program} {w : World} {A : Around} {E : Value → Shared → Prop} {R : Result → Shared → Prop} {s : Shared} {K : PySem.W.Frag} {mg : Str → Option Value} {c pn : Str} {C T fI cc : Addr}
theorem x_init (T' : ExTxt prog K mg c pn C T fI cc) {x t0 : Addr} {v : Value} (X : K.In s.heap) (hlim : s.heap.NoLimit) (hmg : s.heap.Ns mainGlobals mg) (hbl : ∃ mb, s.heap.Ns builtinsNs mb ∧ ∀ x : Str, x ≠ "__name__" → mb x = bootBuiltins x)
    (hx : s.heap.get? x = some (HandSPX.excO C t0)) (hnx : K.lookup x = none) (hroom : A.depth < recursionLimit)
    (hq : ∀ h' tk dx t1, XEnd s.heap h' x C dx t1 pn v → R (.ok (.ret .none)) { s with heap := h', toks := tk }) :
    codeAny (model prog w) A (.call (.ref fI) ⟨[.ref x, v], []⟩) R s := by
  obtain ⟨oc, od, qual, p1, p2, a1, a2, a3, a4, a5, a6, q1, q2, q3, q4, doc, pm, an, cda, ct, osl, ccl, cdd, vs, ccs, file, tf, ho, hcd, hcode, hvs, hfile, hline⟩ := T'.fn
  obtain ⟨nm, q, N, bs, sn, sub, ab, col, dd, k0, k1, k2, k3, k5, hC⟩ := T'.cls
  obtain ⟨cl, cld, csl, hcell⟩ := T'.cell
  obtain ⟨mb, hb1, hb2⟩ := hbl
  have hcl : PySem.W.clsIn K C = some { name := nm, bases := bs, mro := .ref C :: xTail T, ns := N, qualname := q, hasDict := true, slotNames := sn, subclasses := sub, abstract := ab, collection := col, hasDel := false } := by unfold PySem.W.clsIn; rw [hC] <;> rfl
  obtain ⟨n1, n2, n3, n4⟩ := pnc_ne T'.pnc
  have ls : (xS pn).names.lookup ("self" : Str) = some .local := rfl
  have lp : (xS pn).names.lookup pn = some .local := by
    show List.lookup pn [(("self" : Str), NameKind.local), (pn, .local), ("__class__", .free), ("super", .globalImplicit)] = _
    rw [List.lookup_cons, n1]
    simp [List.lookup]
  have lc : (xS pn).names.lookup ("__class__" : Str) = some .free := by
    show List.lookup ("__class__" : Str) [(("self" : Str), NameKind.local), (pn, .local), ("__class__", .free), ("super", .globalImplicit)] = _
    have : (("__class__" : Str) == pn) = false := by rw [beq_eq_false_iff_ne] at n3 ⊢; exact fun e => n3 e.symm
    rw [List.lookup_cons, show (("__class__" : Str) == ("self" : Str)) = false by decide, List.lookup_cons, this]
    simp [List.lookup]
  have lu : (xS pn).names.lookup ("super" : Str) = some .globalImplicit := by
    show List.lookup ("super" : Str) [(("self" : Str), NameKind.local), (pn, .local), ("__class__", .free), ("super", .globalImplicit)] = _
    have : (("super" : Str) == pn) = false := by rw [beq_eq_false_iff_ne] at n4 ⊢; exact fun e => n4 e.symm
    rw [List.lookup_cons, show (("super" : Str) == ("self" : Str)) = false by decide, List.lookup_cons, this, List.lookup_cons, show (("super" : Str) == ("__class__" : Str)) = false by decide]
    simp [List.lookup]
  refine ks_codeAny_call_defAt (fd := PySem.W.fnX "__init__" qual (xA pn p1 p2) (xB pn a1 a2 a3 a4 a5 a6 q1 q2 q3 q4) (xS pn) [("__class__", cc)] .none .none doc pm an (.ref cda) ct) (body := xB pn a1 a2 a3 a4 a5 a6 q1 q2 q3 q4) (binds := [("self", .ref x), (pn, v)]) hroom (X _ _ ho) rfl hlim (PySem.W.codeRec_of X hcd) rfl ?bind ?cell ?loc (fun h₁ hns k => ?body) rfl rfl rfl
  case bind =>
    rcases T'.pnc with rfl | rfl | rfl <;> exact BindsTo.of_eq (by first | rfl | with_unfolding_all rfl)
  case cell =>
    intro y hy
    have hy' : y ∈ [(("self" : Str), NameKind.local), (pn, .local), (("__class__" : Str), .free), (("super" : Str), .globalImplicit)] := hy
    simp only [List.mem_cons, List.not_mem_nil, or_false] at hy'
    rcases hy' with h | h | h | h <;> subst h <;> exact fun z => nomatch z
  case loc =>
    intro y hy
    simp only [List.mem_cons, List.not_mem_nil, or_false] at hy
    rcases hy with h | h <;> subst h
    · exact ls
    · exact lp
  case body =>
    have X1 : K.In h₁ := X.keeps k
    have hx1 := k _ _ hx
    have hxL : s.heap.objs.size ≠ x := Nat.ne_of_gt (Heap.lt_size hx)
    have hgl := hmg.keeps k
    have hbl := hb1.keeps k
    have vself : (fun y => ([(("self" : Str), Value.ref x), (pn, v)] : List (Str × Value)).reverse.lookup y) "self" = some (.ref x) := by
      show List.lookup ("self" : Str) [(pn, v), (("self" : Str), Value.ref x)] = _
      have : (("self" : Str) == pn) = false := by rw [beq_eq_false_iff_ne] at n1 ⊢; exact fun e => n1 e.symm
      rw [List.lookup_cons, this]
      simp [List.lookup]
    have vpn : (fun y => ([(("self" : Str), Value.ref x), (pn, v)] : List (Str × Value)).reverse.lookup y) pn = some v := by
      show List.lookup pn [(pn, v), (("self" : Str), Value.ref x)] = _
      simp [List.lookup]
    obtain ⟨hp, g, d, t, os⟩ := s
    refine ks_wpAt_execs_cons (ks_wpAt_Expr_any (ks_wpAt_MethodCall ?_ (x_meth hline)))
    refine ks_wpAt_super_base (env := callEnv (PySem.W.fnX "__init__" qual (xA pn p1 p2) (xB pn a1 a2 a3 a4 a5 a6 q1 q2 q3 q4) (xS pn) [("__class__", cc)] .none .none doc pm an (.ref cda) ct) hp.objs.size fI) lu lc rfl rfl (X1 _ _ ho) rfl rfl rfl (X1 _ _ hcode) rfl hvs hfile T'.top ?_
    refine PySem.W.ks_loadName_global rfl lu (loadGlobal_builtin (env := callEnv (PySem.W.fnX "__init__" qual (xA pn p1 p2) (xB pn a1 a2 a3 a4 a5 a6 q1 q2 q3 q4) (xS pn) [("__class__", cc)] .none .none doc pm an (.ref cda) ct) hp.objs.size fI) hgl T'.sup hbl ((hb2 _ (by decide +kernel)).trans (show bootBuiltins "super" = some (.type "super") by decide +kernel)) ⟨rfl, ?_⟩)
    refine wpAny_loadName_free rfl lc rfl ⟨_, X1 _ _ hcell, rfl⟩ ?_
    refine wpAny_loadName_local rfl ls hns vself ?_
    refine ks_wpAny_isType_cls (X1 _ _ hC) rfl ⟨rfl, ?_⟩
    refine ks_wpAny_call_super (X1 _ _ hC) rfl hx1 rfl (fun c e => by cases e) (PySem.W.looks_mroIn X1 (x_mro hcl rfl (by simp))) fun h2 e2 k2 => ?_
    have X2 : K.In h2 := X1.keeps k2
    have hx2 := k2 _ _ hx1
    have I2 : PySem.W.InstAt h2 x (HandSPX.excO C t0) C none := ⟨hx2, rfl, rfl, trivial⟩
    have hxC : x ≠ C := fun z => by rw [z, hC] at hnx; cases hnx
    refine ESX.getMethod_super (K := K) (l₀ := .ref C :: xTail T) (l := xTail T) e2 (PySem.W.looks_opaque X2 T'.no3) ((PySem.W.looks_clsIn X2 hcl).andThen .now) (ESX.drop_own C _) X2 T'.sI hxC (by decide) (I2.type.andThen (PySem.W.looks_mroIn X2 (x_mro hcl rfl (x_tail "Exception" (by decide +kernel))))) ?_
    have k3 : ∀ b o, h2.get? b = some o → (h2.push (ESX.bw x)).get? b = some o := fun b o e => Heap.get?_push_of_some _ e
    refine ESX.callWith_bound (x := x) ?_ rfl rfl
    refine spliced_cons (wpAny_Name (wpAny_loadName_local rfl lp ((hns.keeps k2).keeps k3) vpn ?_) n2)
    refine spliced_nil ⟨Heap.get?_push_at rfl rfl, ?_⟩
    refine ESX.call_bw (k3 _ _ (X2 _ _ hC)) (k3 _ _ hx2) (Heap.get?_push_at rfl rfl) (by rw [sizeLine_eq]; exact (by decide : 1 ≤ 16777216)) fun h4 t1 k4 hx4 => ?_
    have hN4 : ∀ b o, b ≠ x → h₁.get? b = some o → h4.get? b = some o := fun b o hb e => k4 b o hb (k3 _ _ (k2 _ _ e))
    have X4 : K.In h4 := fun b o e => hN4 b o (fun z => by rw [z, hnx] at e; cases e) (X1 _ _ e)
    have hns4 : h4.Ns hp.objs.size (fun y => ([(("self" : Str), Value.ref x), (pn, v)] : List (Str × Value)).reverse.lookup y) := by
      obtain ⟨o, es, ep, e, r⟩ := hns
      exact ⟨o, es, ep, hN4 _ _ hxL e, r⟩
    refine ks_wpAt_execs_cons (wpAt_of_wpAny (plainObj_wpAny_Assign_Attribute ?_ rfl))
    refine wpAny_Name (wpAny_loadName_local rfl lp hns4 vpn ?_) n2
    refine wpAny_Name (wpAny_loadName_local rfl ls hns4 vself ?_) (by decide)
    refine PySem.W.set_plain X4 (ox := HandSPX.excO C t1) (od := none) ⟨hx4, rfl, rfl, trivial⟩ T'.sa ?_
    refine x_store X4 hx4 hcl rfl rfl T'.noN fun h5 tk5 dx k5 dn dne hx5 hn5 => ?_
    refine wpAt_of_wpAny (wpAny_execs_nil (hq h5 tk5 dx t1 ⟨fun b o hb e => k5 b o hb (hN4 b o hb (k b o e)), hx5, ?_, dne, hn5⟩))
    have z1 : hp.objs.size < h4.objs.size := hns4.lt
    exact Nat.le_of_lt (Nat.lt_of_lt_of_le z1 dn)
end
end Sm

/-! The Sim layer: raise X(e), X an own error. -/
namespace Sm
open PySem PySem.Calls PyProof.Rows L2
section
variable {prog : Program} {w : World} {A : Around} {R : Result → Shared → Prop} {s : Shared} {K : PySem.W.Frag} {mg : Str → Option Value} {c pn : Str} {C T fI cc : Addr}
theorem x_made (T' : ExTxt prog K mg c pn C T fI cc) {v : Value} (X : K.In s.heap) (hlim : s.heap.NoLimit) (hmg : s.heap.Ns mainGlobals mg) (hbl : ∃ mb, s.heap.Ns builtinsNs mb ∧ ∀ x : Str, x ≠ "__name__" → mb x = bootBuiltins x) (hroom : A.depth + 1 < recursionLimit)
    (hq : ∀ h' tk e d, XMade s.heap h' e C d pn v → R (.ok (.ret (.ref e))) { s with heap := h', toks := tk }) :
    codeAny (model prog w) A (.call (.ref C) ⟨[v], []⟩) R s := by
  obtain ⟨nm, q, N, bs, sn, sub, ab, col, dd, k0, k1, k2, k3, k5, hC⟩ := T'.cls
  obtain ⟨hp, g, dr, tk, os⟩ := s
  have k : ∀ b o, hp.get? b = some o → ((hp.push (PySem.W.kdv_tup [v])).push (HandSPX.excO C hp.objs.size)).get? b = some o := fun b o e => Heap.get?_push_of_some _ (Heap.get?_push_of_some _ e)
  have hget : ((hp.push (PySem.W.kdv_tup [v])).push (HandSPX.excO C hp.objs.size)).get? (hp.objs.size + 1) = some (HandSPX.excO C hp.objs.size) := by heap_get
  have hnx : K.lookup (hp.objs.size + 1) = none := by
    cases e : K.lookup (hp.objs.size + 1) with
    | none => rfl
    | some o =>
      have z : hp.get? (hp.objs.size + 1) = some o := X _ _ e
      exact absurd (Nat.lt_of_succ_lt (Heap.lt_size z)) (Nat.lt_irrefl _)
  refine HandSPX.call_own PySem.F.excBase_Exception (bm := xTail T) (fun X => by rw [List.contains_cons]; rfl) (X _ _ hC) (PySem.W.looks_findIn X T'.iC) (fun self => PySem.W.bind_fn X self T'.tF) (by rw [sizeLine_eq]; exact (by decide : 1 ≤ 16777216)) ?_
  refine x_init (s := ⟨(hp.push (PySem.W.kdv_tup [v])).push (HandSPX.excO C hp.objs.size), g, dr, tk, os⟩) T' (X.keeps k) (hlim.keeps k) (hmg.keeps k) (by obtain ⟨mb, h1, h2⟩ := hbl; exact ⟨mb, h1.keeps k, h2⟩) hget hnx ?_ fun h' tk' dx t1 ⟨k', hx, dn, dne, hns⟩ => ?_
  · show A.depth + 1 < recursionLimit
    exact hroom
  · have old : ∀ b o, hp.get? b = some o → h'.get? b = some o := fun b o e => k' b o (Nat.ne_of_lt (Nat.lt_succ_of_lt (Heap.lt_size e))) (k b o e)
    have z : hp.objs.size + 1 + 1 ≤ dx := by
      first
        | (simpa only [Heap.size_push] using dn)
        | exact dn
        | (have q := dn; rw [Heap.size_push, Heap.size_push] at q; exact q)
    exact ⟨rfl, hq h' tk' (hp.objs.size + 1) dx ⟨old, Nat.le_succ _, ⟨_, _, hx, rfl, rfl, rfl, rfl⟩, Nat.le_trans (Nat.le_trans (Nat.le_succ _) (Nat.le_succ _)) z, dne, hns⟩⟩
end
theorem relO_x {pn : Str} {v : V} {v' : Value} (r : RelV v v') (f : Str) : RelO (List.lookup f [(pn, v)]) (if f = pn then some v' else none) := by
  by_cases hw : f = pn
  · subst hw
    rw [if_pos rfl]
    have q : List.lookup f [(f, v)] = some v := by simp [List.lookup]
    rw [q]
    exact r
  · rw [if_neg hw]
    have qw : (f == pn) = false := by simpa using hw
    have q2 : List.lookup f [(pn, v)] = none := by simp [List.lookup, qw]
    rw [q2]
    trivial
section
variable {X : Cx} {C T fI cc : Addr} {c pn : Str}
def tMkX (C : Addr) (pn : Str) (ta : TE) : L2.St → Hp → XK → Prop := fun σ H Q => ta σ H fun v H1 => ∀ d, H1 d = none → Q (.ref C) (some d) (upd H1 d (.xd [(pn, v)]))
theorem pmk_x {a : Expr} {ta : TE} {p pos : Pos} {k : Nat} (T' : ExTxt X.prog X.K X.mg c pn C T fI cc) (hr : Room k X.A) (ha : PE X a ta) (hg : Gl X c) (hdb : (c == ("__debug__" : Str)) = false)
    (he : starEach (a :: []) X.env = (false, eval a X.env) :: starEach [] X.env) :
    PMk X (.Call (.Name c p) [a] [] pos) (tMkX C pn ta) := by
  intro pins s σ H Q I h
  refine wpAny_Call_Name_kw (ld_glob I hg T'.gC ?_ hdb)
  refine PySem.W.callWith_K (h₀ := X.base) I.ok.mod.kin T'.kC ?_ he (by rfl)
  rw [he]
  show wpAny _ _ (spliced ((false, eval a X.env) :: backTo pos (starEach [] X.env))) _ _ s
  refine Calls.spliced_cons (thn (ha.run pins s σ H _ I h) fun v' s1 ⟨v, H1, I1, rv, q1⟩ => ?_)
  refine Calls.spliced_nil ⟨I1.kIn, ?_⟩
  show wpAny _ _ (call (.ref C) [v']) _ _ _
  have hlim := I1.nolimit
  have hmg : s1.heap.Ns mainGlobals X.mg := I1.mod.glob.keeps I1.bk
  have hbl : ∃ mb, s1.heap.Ns builtinsNs mb ∧ ∀ x : Str, x ≠ "__name__" → mb x = bootBuiltins x := by
    obtain ⟨mb, h1, h2⟩ := I1.mod.blt
    exact ⟨mb, h1.keeps I1.bk, h2⟩
  have kin := I1.kIn
  obtain ⟨hp, g, dr, tk, os⟩ := s1
  refine wpAny_call (x_made T' kin hlim hmg hbl (by have := hr.dp; omega) fun h' tk' e d M => ?_)
  show MkP X pins σ Q (.ref e) ⟨h', g, dr, tk', os⟩
  obtain ⟨oe, fv, hoe, hc, hd, hdat, h1⟩ := M.obj
  have hns := M.ns
  obtain ⟨G', g1, g2⟩ := restrict h' fun b => decide (b ≠ e)
  have gk : ∀ b, b ≠ e → G'.get? b = h'.get? b := fun b hb => g1 b (decide_eq_true hb)
  have ge : G'.get? e = none := g2 e (by simp)
  have old : ∀ b o, hp.get? b = some o → G'.get? b = some o := fun b o q => (gk b (Nat.ne_of_lt (Nat.lt_of_lt_of_le (Heap.lt_size q) M.new))).trans (M.keep b o q)
  have ob : ObjOk X.prog X.w (upd H1 d (.xd [(pn, v)])) G' d (.xd [(pn, v)]) :=
    ⟨_, hns.at (fun o q => (gk d M.dne).trans q), fun f => relO_x rv f⟩
  have J : Inv X pins σ (upd H1 d (.xd [(pn, v)])) ⟨G', g, dr, tk', os⟩ := I1.laid (t' := tk') old M.dbig ob
  refine ⟨e, oe, fv, ⟨G', g, dr, tk', os⟩, _, .ref C, some d, rfl, J, fun b o q => ?_, ge, hoe, ⟨hc, hd⟩, hdat, h1, ?_, rfl, I1.bare, raises_own T'.exC T'.tyC, q1 d (I1.hok.fresh M.dbig)⟩
  · by_cases hb : b = e
    · have q' : G'.get? b = some o := q
      rw [hb, ge] at q'; cases q'
    · exact (gk b hb).symm.trans q
  · rw [upd_ne (Ne.symm M.dne)]
    exact I1.hok.fresh M.new
end
/-- raise c(a) -/
def sRaise (c pn : Str) (a : Ex) : Sx := fun env st => (a env st).to env fun x st1 => .er (c, [(pn, x)]) env st1
section
variable {P : Program} {w : World} {K : PySem.W.Frag} {mg : Str → Option Value} {base : Heap} {S : Sc}
theorem simS_raise {a : Expr} {ma : Ex} {p pos pos2 : Pos} {c pn : Str} {C T fI cc : Addr} (hc : S.calm = true) (T' : ExTxt P K mg c pn C T fI cc) (hg : S.sc.names.lookup c = some .globalImplicit) (ha : SimE P w K mg base S a ma)
    (he : ∀ env, starEach (a :: []) env = (false, eval a env) :: starEach [] env) (hdb : (c == ("__debug__" : Str)) = false := by decide) :
    SimS P w K mg base S (.Raise (some (.Call (.Name c p) [a] [] pos)) none pos2) (sRaise c pn ma) := fun X W hX tk => by
  have h0 := hX
  obtain ⟨rfl, rfl, rfl, rfl, rfl, hN, hsc, hcm, hrm, htp, hfn, hps, hgd, hsu⟩ := hX
  refine PS.imp (ps_raise (by rw [← hcm]; exact hc) tk (pmk_x T' (hrm hc) (ha X W h0 tk) (show X.env.scope.names.lookup c = _ by rw [← hsc]; exact hg) hdb (he _))) fun D σ H ⟨ρ, st, env, rs, re, h⟩ => ⟨ρ, st, env, rs, re, PostS.bind h re fun ρ1 H1 st1 x v _ e1 rs1 rv p1 d hd => ?_⟩
  have ex : Ext ρ1 H1 ρ1 (upd H1 d (.xd [(pn, v)])) := .new hd
  refine p1 ρ1 _ σ (.ref C) (some d) ex (rs1.new hd) ((re.mono e1).mono ex) ⟨C, T'.gC, rfl, .inr ⟨d, [(pn, v)], rfl, upd_same, ?_⟩⟩
  exact ⟨v, [], rfl, rv.mono ex, rfl⟩
end
end Sm

/-! The Sim layer: the end: from a law's mirror to the law's walk. -/
namespace Sm
open PySem PySem.Calls PyProof.Rows L2
theorem sm_law_call {P : Program} {w : World} {K : PySem.W.Frag} {mg mb : Str → Option Value} {k : Nat} {fa a : Addr} {fd : FuncData} {x : Str} {m : Fx} {s₁ : Shared} {vs : List Value} {ns : List Int} {st' : Sto}
    (KX : K.In s₁.heap) (hns : s₁.heap.Ns mainGlobals mg) (hb : s₁.heap.Ns builtinsNs mb) (hbb : ∀ x : Str, x ≠ "__name__" → mb x = bootBuiltins x) (hlim : s₁.heap.NoLimit) (hg : s₁.gens = #[])
    (ha : s₁.heap.get? a = some { cls := .type "list", data := .seq vs.toArray }) (hi : IntsAre vs ns) (hl : ns.length ≤ sizeLine) (hr : Room k callerA)
    (F : ∀ base : Heap, K.In base → base.Ns mainGlobals mg → FnM P w K mg base k fa fd [x] m) (hbind : ∀ (s : Shared) (u : Value), BindsTo s fd ⟨[u], []⟩ [(x, u)])
    (hm : m [.scr ns] [] = .ok (.bl true) st') (hCX : ∀ H e s', L2.CX P w [] H s₁ (fun _ _ _ => False) e s' → False) :
    codeAny (model P w) callerA (.call (.ref fa) ⟨[.ref a], []⟩) (fun r s' => r = .ok (.ret (.bool true)) ∧ OldK s₁.heap s'.heap ∧ s'.os = s₁.os ∧ AllBare s'.gens) s₁ := by
  have rv := vals_ints hi
  have lenV := hi.length
  have core : ∀ H : Hp, Only H → SqF K H a (ns.map V.int) → HOk P w H s₁.heap → (∀ b, H b ≠ none → b = a) → (H a ≠ none → K.lookup a = none) →
      codeAny (model P w) callerA (.call (.ref fa) ⟨[.ref a], []⟩) (fun r s' => r = .ok (.ret (.bool true)) ∧ OldK s₁.heap s'.heap ∧ s'.os = s₁.os ∧ AllBare s'.gens) s₁ := by
    intro H hO hS hok hA hK
    have base_of : ∀ {b : Addr} {o : Obj}, s₁.heap.get? b = some o → H b = none → (hidT s₁.heap H).get? b = some o := fun e n => hidT_get e n
    have noA : ∀ {b : Addr} {o : Obj} {es : Array DictEntry} {ep : Nat}, s₁.heap.get? b = some o → o.data = .dict es ep → H b = none := fun {b o es ep} e d => by
      cases q : H b with
      | none => rfl
      | some u =>
        have e' : b = a := hA b (by rw [q]; simp)
        subst e'
        rw [ha] at e; cases e
        have d' : Data.seq vs.toArray _ = Data.dict es ep := d
        cases d'
    have nsK : ∀ {b : Addr} {m : Str → Option Value}, s₁.heap.Ns b m → (hidT s₁.heap H).Ns b m := fun {b m} ⟨o, es, ep, e, d, r⟩ => ⟨o, es, ep, base_of e (noA e d), d, r⟩
    have hKb : K.In (hidT s₁.heap H) := fun b o e => base_of (KX b o e) (by
      cases q : H b with
      | none => rfl
      | some u =>
        have e' : b = a := hA b (by rw [q]; simp)
        subst e'
        rw [hK (by rw [q]; simp)] at e; cases e)
    have hM : Mod K mg (hidT s₁.heap H) := ⟨hKb, nsK hns, ⟨mb, nsK hb, hbb⟩, let ⟨mc, h1, h2⟩ := hlim; ⟨mc, nsK h1, h2⟩⟩
    have e0 : Env0 P w K mg (hidT s₁.heap H) callerA [] s₁ H := ⟨rfl, hM, fun b o e => of_hidT e, Nat.le_of_eq (hidT_size _ _), trivial, fun b hb => absurd (show b ∈ ([] : List Addr) from hb) (by simp), hok, .of_eq hg⟩
    have sp : spM K mg 1 m [.ref a] H (fun v _ => v = .bl true) fun _ _ _ => False := by
      refine ⟨[], [], [.scr ns], ⟨rfl, List.nodup_nil, fun l b o h => by simp at h⟩, .cons (by rw [RV]; exact ⟨a, rfl, hS⟩) .nil, rfl, ?_⟩
      rw [hm]
      exact fun ρ' H' v _ _ r => by rw [RV] at r; exact r
    refine codeAny_mono ((F _ hKb (nsK hns)).run callerA [] s₁ H ⟨[.ref a], []⟩ [.ref a] [.ref a] _ _ rfl hr e0 (hbind s₁ (.ref a)) (.cons rfl .nil) sp) fun r s' h => ?_
    cases r with
    | error e => exact (hCX H e s' h).elim
    | ok fl =>
      cases fl with
      | next => exact False.elim h
      | brk => exact False.elim h
      | cont => exact False.elim h
      | ret u =>
        obtain ⟨v, H', os, bare, un, hok', r', q⟩ := h
        have q' : v = .bl true := q
        subst q'
        obtain rfl : u = Value.bool true := r'
        refine ⟨rfl, OldK.of_keep fun b o e => ?_, os, bare⟩
        cases q : H b with
        | none => exact un.keep b o e q (by intro z; exact absurd (show b ∈ ([] : List Addr) from z) (by simp)) (by simp)
        | some u =>
          rcases hO b with z | ⟨ob, xs, z⟩
          · rw [q] at z; cases z
          · have z2 := un.frzs b ob _ z
            obtain ⟨e1, _⟩ := hok b _ z
            obtain ⟨e2, _⟩ := hok' b _ z2
            rw [e] at e1; cases e1
            exact e2
  cases hk : K.lookup a with
  | some o =>
    have e := KX a o hk
    rw [ha] at e
    cases e
    refine core (fun _ => none) (fun _ => .inl rfl) (.inr ⟨_, vs.toArray, _, hk, rfl, rfl, rfl, by rw [List.size_toArray, lenV]; exact hl, by simpa using rv⟩) (fun b u z => by have z' : (none : Option HO) = some u := z; cases z') (fun b z => absurd rfl z) fun z => absurd rfl z
  | none =>
    refine core (fun b => if b = a then some (.frz { cls := .type "list", data := .seq vs.toArray } (.lst (ns.map V.int))) else none) (fun b => ?_) (.inl ⟨{ cls := .type "list", data := .seq vs.toArray }, if_pos rfl⟩) (fun b u z => ?_) (fun b z => ?_) fun _ => hk
    · by_cases hb : b = a
      · exact .inr ⟨_, _, if_pos hb⟩
      · exact .inl (if_neg hb)
    · by_cases hb : b = a
      · have z' := (if_pos hb).symm.trans z
        cases z'
        subst hb
        exact ⟨ha, by rw [List.length_map]; exact hl, vs, _, rv, ha⟩
      · have z' := (if_neg hb).symm.trans z
        cases z'
    · by_cases hb : b = a
      · exact hb
      · exact absurd (if_neg hb) z
/-- the walk that a law's head asks for, from its mirror -/
theorem sm_walk {l : PySem.W.OpenLaw} {n k : Nat} {q : Program} {loose : List Str} {XP : (Str → Option Value) → Heap → Prop} {YP : World → Heap → Prop} {d : DefRec} {K : Params → PySem.W.Frag} {x : Str} {m : Fx}
    (hn : l.most = some n) (hn2 : n ≤ sizeLine) (hdf : d.params.defaults = []) (hr : Room k callerA)
    (hY : ∀ (w : World) (h : Heap), YP w h → (K w.params).In h)
    (F : ∀ (w : World) (mg : Str → Option Value) (fa : Addr) (h : Heap), (K w.params).In h → h.Ns mainGlobals mg → mg d.name = some (.ref fa) →
      ∃ fd : FuncData, (∀ (s : Shared) (u : Value), BindsTo s fd ⟨[u], []⟩ [(x, u)]) ∧
        ∀ base : Heap, (K w.params).In base → base.Ns mainGlobals mg → FnM l.prog w (K w.params) mg base k fa fd [x] m)
    (hm : ∀ ns : List Int, ns.length ≤ n → (∀ z ∈ ns, Builtin.Int.intBits z ≤ 1048576) → ∃ st', m [.scr ns] [] = .ok (.bl true) st') :
    PySem.W.WalkO q loose XP YP l.row.toRowW d [] (fun f vs => PySem.call f vs) := by
  refine Att.attach_callB hn hdf fun w s₀ s₁ mg mb fa o pm cd doc a vs ns G Y ho hd hcd hmg hobj hints hlen hbits hg => ?_
  have KX := hY w _ Y
  obtain ⟨fd, hb, hF⟩ := F w mg fa _ KX G.T.g hmg
  obtain ⟨st', hm'⟩ := hm ns hlen hbits
  exact sm_law_call KX G.T.g G.T.b G.T.builtins G.T.nolimit hg hobj hints (Nat.le_trans hlen hn2) hr hF hb hm' fun H e s' z => by
    obtain ⟨_, _, _, _, _, _, _, _, _, _, _, _, z⟩ := z
    exact z
end Sm

/-! The Sim layer, part 13: defs and their calls, bundled. -/
namespace Sm
open PySem L2
/-- a way of calling: places, keywords, the order, the defaults -/
structure Shp where
  n : Nat
  ks : List Str
  ord : List (Nat ⊕ Nat)
  dvs : List Val
/-- what the top has written of a def -/
structure Df (K : PySem.W.Frag) (mg : Str → Option Value) (x : Str) (st : Stmt) (dvs : List V) : Prop where
  ex : ∃ (f : Addr) (oc : Value) (od : Option Addr) (dV kV doc pm : Value) (an : Option Addr) (cdv ct : Value) (osl : Array (Option Value)),
    mg x = some (.ref f) ∧ K.lookup f = some ⟨oc, od, .func (PySem.W.fnOf x x (defArgs st) (defBody st) (defScope st) dV kV doc pm an cdv ct), osl⟩ ∧ PySem.W.codeIn K cdv x = true ∧ PySem.W.keepIn K (.ref f) = true ∧ DflV K dV dvs
/-- a def that may be called -/
structure Cal (P : Program) (w : World) (K : PySem.W.Frag) (mg : Str → Option Value) (base : Heap) (k : Nat) (x : Str) (ps : List Str) (m : Fx) (sh : List Shp) : Prop where
  ex : ∃ (f : Addr) (fd : FuncData), FnM P w K mg base k f fd ps m ∧ mg x = some (.ref f) ∧ PySem.W.keepIn K (.ref f) = true ∧ ∀ p ∈ sh, BindsM K mg fd ps p.n p.ks p.ord p.dvs
section
variable {P : Program} {w : World} {K : PySem.W.Frag} {mg : Str → Option Value} {base : Heap} {S : Sc}
variable {e a b c : Expr} {es : List Expr} {ma mb mc : Ex} {aa ab : Ax} {pos pos' : Pos}
/-- a way of calling a def without defaults -/
def Way0 (x : Str) (st : Stmt) (ps : List Str) (p : Shp) : Prop := p.ord.length = ps.length ∧ p.dvs = [] ∧
  ∀ (kV doc pm : Value) (an : Option Addr) (cdv ct : Value) (us ws : List Value), us.length = p.n → ws.length = p.ks.length →
    bindArgs (PySem.W.fnOf x x (defArgs st) (defBody st) (defScope st) .none kV doc pm an cdv ct) ⟨us, p.ks.zip ws⟩ = pure (ps.zip (arr .none p.ord (us ++ ws) []))
/-- .. with n defaults -/
def Way1 (x : Str) (st : Stmt) (ps : List Str) (n : Nat) (p : Shp) : Prop := p.ord.length = ps.length ∧
  ∀ (T : Addr) (kV doc pm : Value) (an : Option Addr) (cdv ct : Value) (us ws its : List Value), us.length = p.n → ws.length = p.ks.length → its.length = n →
    ∃ k, bindArgs (PySem.W.fnOf x x (defArgs st) (defBody st) (defScope st) (.ref T) kV doc pm an cdv ct) ⟨us, p.ks.zip ws⟩ = seqItems? (.ref T) >>= k ∧ k (some its.toArray) = pure (ps.zip (arr .none p.ord (us ++ ws) its))
theorem cal0 {x : Str} {st : Stmt} {N ps : List Str} {k : Nat} {bd : Sx} {sh : List Shp} (D : Df K mg x st []) (F' : FnScope N ps (defScope st)) (h : SimSs P w K mg base { N := N, sc := defScope st, k := k } (defBody st) bd) (hw : ∀ p ∈ sh, Way0 x st ps p) :
    Cal P w K mg base (k + 1) x ps (runB N.length bd) sh := by
  obtain ⟨f, oc, od, dV, kV, doc, pm, an, cdv, ct, osl, h1, h2, h3, h4, h5⟩ := D.ex
  refine ⟨f, _, fn_sim h2 h3 F' h, h1, h4, fun p hp => ?_⟩
  obtain ⟨w1, w2, w3⟩ := hw p hp
  rcases h5 with ⟨_, rfl⟩ | ⟨z, _⟩
  · refine ⟨w1, [], [], .nil, fun ρ H => by rw [w2]; exact .nil, fun s us ws _ hu hk => .of_eq (w3 kV doc pm an cdv ct us ws hu hk)⟩
  · exact absurd rfl z
theorem cal1 {x : Str} {st : Stmt} {N ps : List Str} {k : Nat} {bd : Sx} {sh : List Shp} {dvs : List V} {dms : List Val} (D : Df K mg x st dvs) (hd : dvs ≠ []) (hr : ∀ ρ H, RVs K mg ρ H dms dvs) (F' : FnScope N ps (defScope st)) (h : SimSs P w K mg base { N := N, sc := defScope st, k := k } (defBody st) bd)
    (hw : ∀ p ∈ sh, Way1 x st ps dvs.length p ∧ p.dvs = dms) : Cal P w K mg base (k + 1) x ps (runB N.length bd) sh := by
  obtain ⟨f, oc, od, dV, kV, doc, pm, an, cdv, ct, osl, h1, h2, h3, h4, h5⟩ := D.ex
  refine ⟨f, _, fn_sim h2 h3 F' h, h1, h4, fun p hp => ?_⟩
  obtain ⟨⟨w1, w3⟩, w2⟩ := hw p hp
  rcases h5 with ⟨z, _⟩ | ⟨_, T, o, its, m, rfl, lT, oT, rT⟩
  · exact absurd z hd
  · refine ⟨w1, its, dvs, rT, fun ρ H => by rw [w2]; exact hr ρ H, fun s us ws X hu hk => ?_⟩
    obtain ⟨k, e1, e2⟩ := w3 T kV doc pm an cdv ct us ws its hu hk rT.length.symm
    refine BindsTo.of_looks fun M => ?_
    rw [e1]
    exact looks_items X lT oT (.of_pure e2)
theorem simE_cal {k : Nat} {ps : List Str} {m : Fx} {sh : List Shp} {x : Str} {p : Pos} {kws : List Keyword} {q : Shp} (hc : S.calm = true) (C : Cal P w K mg base k x ps m sh) (hq : q ∈ sh) (hk : k ≤ S.k) (hg : S.sc.names.lookup x = some .globalImplicit)
    (ha : SimC P w K mg base S es kws q.n q.ks aa) (hdb : (x == ("__debug__" : Str)) = false := by decide) :
    SimE P w K mg base S (.Call (.Name x p) es kws pos) (eCallF m q.ord q.dvs aa) := by
  obtain ⟨f, fd, F, h1, h2, h3⟩ := C.ex
  exact simE_callF hc F hk hg h1 h2 (h3 q hq) ha hdb
/-- a, b, c = x, y, z -/
def sPar3 (i j l : Nat) (a : Ax) : Sx := fun env st => (a env st).to env fun xs st1 => match xs with
  | [x, y, z] => .nx (((env.set i (some x)).set j (some y)).set l (some z)) st1
  | _ => .stuck
theorem simS_par3 {i j l : Nat} {x y z : Str} {px py pz pt : Pos} {kt k2 pt2} (hc : S.calm = true) (hN : S.N.Nodup) (hi : S.N[i]? = some x) (hj : S.N[j]? = some y) (hl : S.N[l]? = some z) (hij : i ≠ j) (hil : i ≠ l) (hjl : j ≠ l)
    (hx : S.sc.names.lookup x = some .local) (hy : S.sc.names.lookup y = some .local) (hz : S.sc.names.lookup z = some .local) (ha : SimA P w K mg base S [a, b, c] aa)
    (hw : ∀ env : PySem.Env, env.scope = S.sc → swappedStores [.Tuple [.Name x px, .Name y py, .Name z pz] kt pt] (.Tuple [a, b, c] k2 pt2) env = pure (some [x, y, z]))
    (hs : ∀ env, swapsWithSole [.Tuple [.Name x px, .Name y py, .Name z pz] kt pt] (.Tuple [a, b, c] k2 pt2) pos.line env = pure false) :
    SimS P w K mg base S (.Assign [.Tuple [.Name x px, .Name y py, .Name z pz] kt pt] (.Tuple [a, b, c] k2 pt2) pos) (sPar3 i j l aa) := fun X W hX tk =>
  PS.imp (ps_par3 (i := i) (j := j) (l := l) (by rw [← hX.calm]; exact hc) (by rw [← hX.N]; exact hN) (by rw [← hX.N]; exact hi) (by rw [← hX.N]; exact hj) (by rw [← hX.N]; exact hl) hij hil hjl (by rw [← hX.scope]; exact hx) (by rw [← hX.scope]; exact hy) (by rw [← hX.scope]; exact hz) (ha X W hX tk) (hw _ hX.scope.symm) (hs _)) fun D σ H ⟨ρ, st, env, rs, re, h⟩ =>
    ⟨ρ, st, env, rs, re, PostS.bind h re fun ρ1 H1 st1 xs vs _ e1 rs1 rvs p1 => by
      match xs, rvs, p1 with
      | [x1, x2, x3], rvs, p1 =>
        rw [RVs] at rvs
        obtain ⟨v1, r1, rfl, q1, rvs⟩ := rvs
        obtain ⟨v2, v3, rfl, q2, q3⟩ := rvs.two
        exact ⟨v1, v2, v3, rfl, p1 ρ1 H1 _ .refl rs1 ((((re.mono e1).set q1).set q2).set q3)⟩
      | [], _, p1 => exact p1.elim
      | [_], _, p1 => exact p1.elim
      | [_, _], _, p1 => exact p1.elim
      | _ :: _ :: _ :: _ :: _, _, p1 => exact p1.elim⟩
end
end Sm

/-! The Sim layer, part 14: names and short forms for what the generator prints. -/
namespace Sm
open PySem L2
abbrev oSub := oInt (fun i j => .int (i - j)) fun _ _ => true
abbrev oMod := oInt (fun i j => .int (i % j)) fun _ j => decide (0 < j)
abbrev oFdiv := oInt (fun i j => .int (i / j)) fun _ j => decide (0 < j ∧ j.natAbs.log2 < 9000)
abbrev oPow := oInt (fun i j => .int (i ^ j.toNat)) fun i j => decide (0 ≤ j ∧ j ≤ 1000000 ∧ i.natAbs < 2 ^ 64)
abbrev oShl := oInt (fun i j => .int (i * 2 ^ j.toNat)) fun i j => decide (0 ≤ j ∧ (Builtin.Int.intBits i : Int) + j ≤ 2 ^ 27)
abbrev oShr := oInt (fun i j => .int (i / 2 ^ j.toNat)) fun _ j => decide (0 ≤ j)
abbrev oAnd := oInt (fun i j => .int (Builtin.bitAnd i j)) fun _ _ => true
abbrev oOr := oInt (fun i j => .int (Builtin.bitOr i j)) fun _ _ => true
abbrev oXor := oInt (fun i j => .int (Builtin.bitXor i j)) fun _ _ => true
abbrev oLt := oInt (fun i j => .bl (decide (i < j))) fun _ _ => true
abbrev oLe := oInt (fun i j => .bl (decide (i ≤ j))) fun _ _ => true
abbrev oGt := oInt (fun i j => .bl (decide (j < i))) fun _ _ => true
abbrev oGe := oInt (fun i j => .bl (decide (j ≤ i))) fun _ _ => true
abbrev oIAdd := oInt (fun i j => .int (i + j)) fun _ _ => true
def GTup (K : PySem.W.Frag) (mg : Str → Option Value) (x : Str) (xs : List Val) : Prop := ∃ a vs, mg x = some (.ref a) ∧ SqK K a vs ∧ ∀ ρ H, RVs K mg ρ H xs vs
def XcOk (P : Program) (K : PySem.W.Frag) (mg : Str → Option Value) (c pn : Str) : Prop := ∃ C T fI cc, ExTxt P K mg c pn C T fI cc
section
variable {P : Program} {w : World} {K : PySem.W.Frag} {mg : Str → Option Value} {base : Heap} {S : Sc}
variable {e a b c : Expr} {es : List Expr} {ma mb mc : Ex} {aa ab : Ax} {pos pos' : Pos}
theorem simE_gint {x : Str} {v : Int} (hg : S.sc.names.lookup x = some .globalImplicit) (h : ∃ t, mg x = some (.int v t)) (hd : (x == ("__debug__" : Str)) = false := by decide) : SimE P w K mg base S (.Name x pos) (eC (.int v)) := by
  obtain ⟨t, h⟩ := h
  exact simE_glob hg h (v := .int v) ⟨t, rfl⟩ (fun _ _ => rvi) hd
theorem simE_gtup {x : Str} {xs : List Val} (hg : S.sc.names.lookup x = some .globalImplicit) (h : GTup K mg x xs) (hd : (x == ("__debug__" : Str)) = false := by decide) : SimE P w K mg base S (.Name x pos) (eC (.kt xs)) := by
  obtain ⟨a, vs, h1, h2, h3⟩ := h
  exact simE_glob hg h1 (v := .ref a) rfl (fun ρ H => by rw [RV]; exact ⟨a, vs, rfl, h2, h3 ρ H⟩) hd
theorem simS_raiseX {a : Expr} {ma : Ex} {p pos pos2 : Pos} {c pn : Str} (hc : S.calm = true) (h : XcOk P K mg c pn) (hg : S.sc.names.lookup c = some .globalImplicit) (ha : SimE P w K mg base S a ma)
    (he : ∀ env, starEach (a :: []) env = (false, eval a env) :: starEach [] env) (hdb : (c == ("__debug__" : Str)) = false := by decide) :
    SimS P w K mg base S (.Raise (some (.Call (.Name c p) [a] [] pos)) none pos2) (sRaise c pn ma) := by
  obtain ⟨C, T, fI, cc, h⟩ := h
  exact simS_raise hc h hg ha he hdb
theorem simHs_cons {x : Str} {b₀ : Stmt} {suite : List Stmt} {np pos' : Pos} {hds : List ExceptHandler} {l : List Cl} {s : Sx} (hm : ∃ D, mg x = some (.ref D)) (hg : S.sc.names.lookup x = some .globalImplicit)
    (hs : SimSs P w K mg base { S with calm := false, top := false, xi := none } (b₀ :: suite) s) (r : SimHs P w K mg base S hds l) (hd : (x == ("__debug__" : Str)) = false := by decide) : SimHs P w K mg base S (.ExceptHandler (some (.Name x np)) none (b₀ :: suite) pos' :: hds) (⟨x, none, s⟩ :: l) := by
  obtain ⟨D, hm⟩ := hm
  exact .cons hg hd hm hs r
theorem simS_tryAsX {x n : Str} {i : Nat} {b₀ : Stmt} {body suite : List Stmt} {np pos' : Pos} {sb ss : Sx} {exm : Str → Str → Option Bool} (hx : ExmOk K mg exm) (hm : ∃ D, mg x = some (.ref D)) (htop : S.top = true) (hxi : S.xi = none) (hN : S.N.Nodup) (hi : S.N[i]? = some n) (hn : S.sc.names.lookup n = some .local)
    (hg : S.sc.names.lookup x = some .globalImplicit) (hb : SimSs P w K mg base S body sb) (hs : ∀ a cls d, SimSs P w K mg base { S with calm := false, top := false, xi := some ⟨i, a, cls, d⟩ } (b₀ :: suite) ss) (hd : (x == ("__debug__" : Str)) = false := by decide) :
    SimS P w K mg base S (.Try body [.ExceptHandler (some (.Name x np)) (some n) (b₀ :: suite) pos'] [] [] pos) (sTry exm sb [⟨x, some i, ss⟩]) := by
  obtain ⟨D, hm⟩ := hm
  exact simS_tryAs hx htop hxi hN hi hn hg hd hm hb hs
theorem simE_xisX {isx : Str → Str → Option Bool} {ξ : XI} {n t : Str} {np tp p : Pos} (hx : IsxOk K mg isx) (hmt : ∃ D, mg t = some (.ref D)) (hm : mg "isinstance" = none) (hxi : S.xi = some ξ) (hN : S.N[ξ.i]? = some n) (hv : Vis S.sc n) (hg : S.sc.names.lookup ("isinstance" : Str) = some .globalImplicit) (hgt : S.sc.names.lookup t = some .globalImplicit)
    (hdt : (t == ("__debug__" : Str)) = false := by decide) (hd : (n == ("__debug__" : Str)) = false := by decide) (hcd : (n == ("__classdict__" : Str)) = false := by decide) :
    SimE P w K mg base S (.Call (.Name "isinstance" p) [.Name n np, .Name t tp] [] pos) (eXis isx ξ.i t) := by
  obtain ⟨D, hmt⟩ := hmt
  exact simE_xis hx hxi hN hv hg hm hgt hmt hdt hd hcd
theorem ways_nil {p : Shp → Prop} : ∀ q ∈ ([] : List Shp), p q := fun _ h => nomatch h
theorem ways_cons {p : Shp → Prop} {q : Shp} {l : List Shp} (h : p q) (r : ∀ q ∈ l, p q) : ∀ z ∈ q :: l, p z := fun z hz => by
  rcases List.mem_cons.mp hz with e | hz
  · subst e; exact h
  · exact r z hz
theorem all_nil {α : Type} {p : α → Prop} : ∀ q ∈ ([] : List α), p q := fun _ h => nomatch h
theorem all_cons {α : Type} {p : α → Prop} {q : α} {l : List α} (h : p q) (r : ∀ q ∈ l, p q) : ∀ z ∈ q :: l, p z := fun z hz => by
  rcases List.mem_cons.mp hz with e | hz
  · subst e; exact h
  · exact r z hz
theorem along_of {K : PySem.W.Frag} {t : Addr} {cv : Value} {dd : Option Addr} {cd : ClassData} {sl : Array (Option Value)} {l : List Value} {name : Str} {r : Option Value} (h : K.lookup t = some ⟨cv, dd, .cls cd, sl⟩) (hm : cd.mro = l) (hf : PySem.W.findIn K (.ref t) name = some r) : PySem.W.alongIn K name l = some r := by
  unfold PySem.W.findIn at hf
  simp only [h] at hf
  rw [← hm]
  exact hf
theorem exm_of {K : PySem.W.Frag} {C D : Addr} {b : Bool} (h1 : PySem.W.subIn K (.ref D) (.type "BaseException") = some true) (h2 : PySem.W.isClsIn K D = true) (h3 : PySem.W.typeIn K (.ref D) = some (.type "type")) (h4 : PySem.W.subIn K (.ref C) (.ref D) = some b) : PySem.W.exmOne K (.ref C) (.ref D) = some b := by
  have h2' : (PySem.W.clsIn K D).isSome = true := h2
  unfold PySem.W.exmOne PySem.W.kitCls
  simp only [h1, h2', h3]
  exact h4
theorem kit_ofC {K : PySem.W.Frag} {C D : Addr} {b : Bool} (h2 : PySem.W.isClsIn K D = true) (h3 : PySem.W.typeIn K (.ref D) = some (.type "type")) (h4 : PySem.W.subIn K (.ref C) (.ref D) = some b) (h5 : (Value.ref C == Value.ref D) = true → b = true) : PySem.W.kitOne K (.ref C) (.ref D) = some b := by
  have h2' : (PySem.W.clsIn K D).isSome = true := h2
  unfold PySem.W.kitOne PySem.W.kitCls
  cases q : (Value.ref C == Value.ref D) with
  | true => rw [h5 q]; rfl
  | false =>
    simp only [h2', h3]
    exact h4
/-- a table of pairs -/
def pairs (l : List ((Str × Str) × Bool)) : Str → Str → Option Bool := fun x c => l.lookup (x, c)
theorem exmOk_of {l : List ((Str × Str) × Bool)} (h : ∀ p ∈ l, ∀ C D, mg p.1.1 = some (.ref C) → mg p.1.2 = some (.ref D) → PySem.W.exmOne K (.ref C) (.ref D) = some p.2) : ExmOk K mg (pairs l) := fun x c b C D e h1 h2 => by
  have : ∀ (l : List ((Str × Str) × Bool)), l.lookup (x, c) = some b → ((x, c), b) ∈ l := by
    intro l
    induction l with
    | nil => intro z; cases z
    | cons q r ih =>
      intro z
      obtain ⟨k, y⟩ := q
      rw [List.lookup_cons] at z
      cases hk : ((x, c) == k) with
      | true => rw [hk] at z; cases z; rw [beq_iff_eq.mp hk]; exact List.mem_cons_self
      | false => rw [hk] at z; exact List.mem_cons_of_mem _ (ih z)
  exact h _ (this l e) C D h1 h2
theorem isxOk_of {l : List ((Str × Str) × Bool)} (h : ∀ p ∈ l, ∀ C D, mg p.1.1 = some (.ref C) → mg p.1.2 = some (.ref D) → IsxC K C ∧ PySem.W.kitOne K (.ref C) (.ref D) = some p.2) : IsxOk K mg (pairs l) := fun x c b C D e h1 h2 => by
  have : ∀ (l : List ((Str × Str) × Bool)), l.lookup (x, c) = some b → ((x, c), b) ∈ l := by
    intro l
    induction l with
    | nil => intro z; cases z
    | cons q r ih =>
      intro z
      obtain ⟨k, y⟩ := q
      rw [List.lookup_cons] at z
      cases hk : ((x, c) == k) with
      | true => rw [hk] at z; cases z; rw [beq_iff_eq.mp hk]; exact List.mem_cons_self
      | false => rw [hk] at z; exact List.mem_cons_of_mem _ (ih z)
  exact h _ (this l e) C D h1 h2
def xfs (l : List (Str × Str)) : Str → Str → Bool := fun c f => l.contains (c, f)
theorem xfOk_of {l : List (Str × Str)} (h : ∀ p ∈ l, ∀ C, mg p.1 = some (.ref C) → XfC K C ∧ PySem.W.findIn K (.ref C) p.2 = some none) : XfOk K mg (xfs l) := fun c f C e h1 => h (c, f) (List.contains_iff_mem.mp e) C h1
theorem simT_chain {o o' : Val → Val → Sto → R Val} {op op' : CmpOp} (ho : OpOk P w K mg base S (compareOp op) o) (ho' : OpOk P w K mg base S (compareOp op') o') (ha : SimE P w K mg base S a ma) (hb : SimE P w K mg base S b mb) (hc : SimE P w K mg base S c mc)
    (hm : lastMarks [op, op'] [b, c] = false) : SimT P w K mg base S (.Compare a [op, op'] [b, c] pos) (tVal (eChain o o' ma mb mc)) := fun X W hX tk => by
  obtain ⟨r, h1, h2⟩ := ho X hX
  obtain ⟨r', h1', h2'⟩ := ho' X hX
  refine PT.imp (pt_chain h1 h1' (ha X W hX tk) (hb X W hX tk) (hc X W hX tk) hm) fun σ H Q0 ⟨ρ, st, env, rs, re, h0⟩ => ?_
  have h : PostE K mg W ρ H σ (fun x H' => ∃ k, x = .bl k ∧ Q0 k H') (eChain o o' ma mb mc env st) := Post.bind h0 fun ρ1 H1 st1 x v _ e1 rs1 rv p1 => blOf rs1 rv p1
  refine ⟨ρ, st, env, rs, re, Post.bind h fun ρ1 H1 st1 x v _ e1 rs1 rv p1 => ?_⟩
  refine ⟨ρ1, st1, env, rs1, re.mono e1, Post.bind p1 fun ρ2 H2 st2 y u _ e2 rs2 ru p2 => ?_⟩
  refine h2 ρ2 H2 st2 x y v u W σ _ rs2 (rv.mono e2) ru (Post.bind p2 fun ρ3 H3 st3 z k _ e3 rs3 rz p3 => ?_)
  cases z with
  | bl q =>
    rw [RV] at rz
    cases q with
    | true => exact ⟨true, rz, by rw [if_pos rfl]; exact ⟨ρ3, st3, env, rs3, ((re.mono e1).mono e2).mono e3, Post.bind p3 fun ρ4 H4 st4 z2 k2 _ e4 rs4 rz2 p4 => h2' ρ4 H4 st4 y z2 u k2 W σ _ rs4 ((ru.mono e3).mono e4) rz2 p4⟩⟩
    | false => exact ⟨false, rz, by rw [if_neg (by simp)]; exact p3 ρ3 H3 _ .refl rs3 (by rw [RV])⟩
  | _ => exact p3.elim
end
end Sm

/-! The Sim layer, part 15: reasoning about mirrors: what is wanted behind them. -/
namespace Sm
open PySem L2
/-- r comes to a value, and Q holds -/
def Ok {α : Type} (r : R α) (Q : α → Sto → Prop) : Prop := match r with
  | .ok a st => Q a st
  | _ => False
/-- what is wanted of a statement's ends -/
structure Dn where
  nx : Env → Sto → Prop := fun _ _ => False
  rt : Val → Sto → Prop := fun _ _ => False
  bk : Env → Sto → Prop := fun _ _ => False
  ct : Env → Sto → Prop := fun _ _ => False
def OkS (r : SR) (D : Dn) : Prop := match r with
  | .nx e st => D.nx e st
  | .rt v st => D.rt v st
  | .bk e st => D.bk e st
  | .ct e st => D.ct e st
  | _ => False
@[simp] theorem Ok_ok {α : Type} (a : α) (st : Sto) (Q : α → Sto → Prop) : Ok (.ok a st) Q = Q a st := rfl
@[simp] theorem Ok_stuck {α : Type} (Q : α → Sto → Prop) : Ok (.stuck : R α) Q = False := rfl
@[simp] theorem Ok_err {α : Type} (x : Xn) (st : Sto) (Q : α → Sto → Prop) : Ok (.err x st : R α) Q = False := rfl
@[simp] theorem OkS_nx (e : Env) (st : Sto) (D : Dn) : OkS (.nx e st) D = D.nx e st := rfl
@[simp] theorem OkS_rt (v : Val) (st : Sto) (D : Dn) : OkS (.rt v st) D = D.rt v st := rfl
@[simp] theorem OkS_bk (e : Env) (st : Sto) (D : Dn) : OkS (.bk e st) D = D.bk e st := rfl
@[simp] theorem OkS_ct (e : Env) (st : Sto) (D : Dn) : OkS (.ct e st) D = D.ct e st := rfl
@[simp] theorem OkS_stuck (D : Dn) : OkS .stuck D = False := rfl
@[simp] theorem Ok_bind {α β : Type} (r : R α) (f : α → Sto → R β) (Q : β → Sto → Prop) : Ok (r.bind f) Q = Ok r fun a st => Ok (f a st) Q := by cases r <;> rfl
@[simp] theorem OkS_to {α : Type} (r : R α) (e : Env) (f : α → Sto → SR) (D : Dn) : OkS (r.to e f) D = Ok r fun a st => OkS (f a st) D := by cases r <;> rfl
@[simp] theorem OkS_seq (a b : Sx) (env : Env) (st : Sto) (D : Dn) : OkS (sSeq a b env st) D = OkS (a env st) { D with nx := fun e s => OkS (b e s) D } := by
  unfold sSeq
  cases a env st <;> rfl
theorem Ok.imp {α : Type} {r : R α} {Q Q' : α → Sto → Prop} (h : Ok r Q) (f : ∀ a st, Q a st → Q' a st) : Ok r Q' := by
  cases r with
  | ok a st => exact f a st h
  | _ => exact h
theorem OkS.imp {r : SR} {D D' : Dn} (h : OkS r D) (h1 : ∀ e s, D.nx e s → D'.nx e s) (h2 : ∀ v s, D.rt v s → D'.rt v s) (h3 : ∀ e s, D.bk e s → D'.bk e s) (h4 : ∀ e s, D.ct e s → D'.ct e s) : OkS r D' := by
  cases r with
  | nx e s => exact h1 e s h
  | rt e s => exact h2 e s h
  | bk e s => exact h3 e s h
  | ct e s => exact h4 e s h
  | _ => exact h
@[simp] theorem Ok_run (n : Nat) (b : Sx) (xs : List Val) (st : Sto) (Q : Val → Sto → Prop) : Ok (runB n b xs st) Q = OkS (b (xs.map some ++ List.replicate (n - xs.length) none) st) { nx := fun _ s => Q .non s, rt := Q } := by
  unfold runB
  cases b (xs.map some ++ List.replicate (n - xs.length) none) st <;> rfl
@[simp] theorem Ok_noErR {α : Type} (r : R α) (Q : α → Sto → Prop) : Ok (noErR r) Q = Ok r Q := by cases r <;> rfl
theorem Ok_iff {α : Type} {r : R α} {Q : α → Sto → Prop} : Ok r Q ↔ ∃ a st, r = .ok a st ∧ Q a st := by
  constructor
  · intro h
    cases r with
    | ok a st => exact ⟨a, st, rfl, h⟩
    | _ => exact False.elim h
  · rintro ⟨a, st, rfl, h⟩
    exact h
theorem Ok_eq {α : Type} {r : R α} {a : α} {st : Sto} (h : Ok r fun a' s => a' = a ∧ s = st) : r = .ok a st := by
  cases r with
  | ok a' s => obtain ⟨h1, h2⟩ := h; rw [h1, h2]
  | _ => exact h.elim
/-! ### a name's value -/
def okV : Val → Bool
  | .exc _ _ => false
  | _ => true
def getV : Option (Option Val) → Sto → R Val
  | some (some (.exc _ _)), _ => .stuck
  | some (some v), st => .ok v st
  | _, _ => .stuck
theorem getV_ok {x : Val} {st : Sto} (h : okV x = true) : getV (some (some x)) st = .ok x st := by
  cases x <;> first | rfl | cases h
@[simp] theorem getV_non (st : Sto) : getV (some (some .non)) st = .ok .non st := rfl
@[simp] theorem getV_bl (st : Sto) (b : Bool) : getV (some (some (.bl b))) st = .ok (.bl b) st := rfl
@[simp] theorem getV_int (st : Sto) (i : Int) : getV (some (some (.int i))) st = .ok (.int i) st := rfl
@[simp] theorem getV_str (st : Sto) (x : Str) : getV (some (some (.str x))) st = .ok (.str x) st := rfl
@[simp] theorem getV_tup (st : Sto) (xs : List Val) : getV (some (some (.tup xs))) st = .ok (.tup xs) st := rfl
@[simp] theorem getV_kt (st : Sto) (xs : List Val) : getV (some (some (.kt xs))) st = .ok (.kt xs) st := rfl
@[simp] theorem getV_loc (st : Sto) (l : Nat) : getV (some (some (.loc l))) st = .ok (.loc l) st := rfl
@[simp] theorem getV_scr (st : Sto) (ns : List Int) : getV (some (some (.scr ns))) st = .ok (.scr ns) st := rfl
@[simp] theorem eVar_eq (i : Nat) (env : Env) (st : Sto) : eVar i env st = getV env[i]? st := by
  unfold eVar
  cases env[i]? with
  | none => rfl
  | some o =>
    cases o with
    | none => rfl
    | some v => cases v <;> rfl
/-! ### the combinators, as equations -/
@[simp] theorem eC_eq (v : Val) (env : Env) (st : Sto) : eC v env st = .ok v st := rfl
@[simp] theorem eOp_eq (o : Val → Val → Sto → R Val) (a b : Ex) (env : Env) (st : Sto) : eOp o a b env st = (a env st).bind fun x st1 => (b env st1).bind fun y st2 => o x y st2 := rfl
@[simp] theorem eUn_eq (o : Val → Sto → R Val) (a : Ex) (env : Env) (st : Sto) : eUn o a env st = (a env st).bind fun x st1 => o x st1 := rfl
def ifB {α : Type} (v : Val) (st : Sto) (f : Bool → Sto → R α) : R α := match v with
  | .bl b => f b st
  | _ => .stuck
@[simp] theorem ifB_bl {α : Type} (b : Bool) (st : Sto) (f : Bool → Sto → R α) : ifB (.bl b) st f = f b st := rfl
@[simp] theorem eAnd_eq (a b : Ex) (env : Env) (st : Sto) : eAnd a b env st = (a env st).bind fun x st1 => ifB x st1 fun q st1 => if q then b env st1 else .ok (.bl false) st1 := by
  unfold eAnd
  congr 1
  funext x s
  cases x with
  | bl b => cases b <;> rfl
  | _ => rfl
@[simp] theorem eOr_eq (a b : Ex) (env : Env) (st : Sto) : eOr a b env st = (a env st).bind fun x st1 => ifB x st1 fun q st1 => if q then .ok (.bl true) st1 else b env st1 := by
  unfold eOr
  congr 1
  funext x s
  cases x with
  | bl b => cases b <;> rfl
  | _ => rfl
@[simp] theorem eNot_eq (a : Ex) (env : Env) (st : Sto) : eNot a env st = (a env st).bind fun x st1 => ifB x st1 fun q st1 => .ok (.bl (!q)) st1 := by
  rfl
@[simp] theorem eChain_eq (o o' : Val → Val → Sto → R Val) (a b c : Ex) (env : Env) (st : Sto) : eChain o o' a b c env st = (a env st).bind fun x st1 => (b env st1).bind fun y st2 => (o x y st2).bind fun z st3 => ifB z st3 fun q st3 => if q then (c env st3).bind fun u st4 => o' y u st4 else .ok (.bl false) st3 := by
  unfold eChain
  congr 1
  funext x s
  congr 1
  funext y s
  congr 1
  funext z s
  cases z with
  | bl b => cases b <;> rfl
  | _ => rfl
@[simp] theorem tVal_eq (a : Ex) (env : Env) (st : Sto) : tVal a env st = (a env st).bind fun x st1 => ifB x st1 fun q st1 => .ok q st1 := by
  unfold tVal
  congr 1
  funext x s
  cases x <;> rfl
@[simp] theorem tAnd_eq (a b : Tx) (env : Env) (st : Sto) : tAnd' a b env st = (a env st).bind fun x st1 => if x then b env st1 else .ok false st1 := rfl
@[simp] theorem tOr_eq (a b : Tx) (env : Env) (st : Sto) : tOr' a b env st = (a env st).bind fun x st1 => if x then .ok true st1 else b env st1 := rfl
@[simp] theorem tNot_eq (a : Tx) (env : Env) (st : Sto) : tNot' a env st = (a env st).bind fun x st1 => .ok (!x) st1 := rfl
@[simp] theorem eIf_eq (c : Tx) (a b : Ex) (env : Env) (st : Sto) : eIf c a b env st = (c env st).bind fun x st1 => if x then a env st1 else b env st1 := rfl
@[simp] theorem aNil_eq (env : Env) (st : Sto) : aNil env st = .ok [] st := rfl
@[simp] theorem aCons_eq (a : Ex) (r : Ax) (env : Env) (st : Sto) : aCons a r env st = (a env st).bind fun x st1 => (r env st1).bind fun xs st2 => .ok (x :: xs) st2 := rfl
@[simp] theorem aApp_eq (a b : Ax) (env : Env) (st : Sto) : aApp a b env st = (a env st).bind fun xs st1 => (b env st1).bind fun ys st2 => .ok (xs ++ ys) st2 := rfl
@[simp] theorem eTup_eq (a : Ax) (env : Env) (st : Sto) : eTup a env st = (a env st).bind fun xs st1 => if xs.length ≤ 16777216 then .ok (.tup xs) st1 else .stuck := rfl
@[simp] theorem eLst_eq (a : Ax) (env : Env) (st : Sto) : eLst a env st = (a env st).bind fun xs st1 => if xs.length ≤ 16777216 then .ok (.loc st1.length) (st1 ++ [.lst xs]) else .stuck := rfl
@[simp] theorem eCall_eq (o : List Val → Sto → R Val) (a : Ax) (env : Env) (st : Sto) : eCall o a env st = (a env st).bind fun xs st1 => o xs st1 := rfl
@[simp] theorem eCallF_eq (m : Fx) (ord : List (Nat ⊕ Nat)) (dvs : List Val) (aa : Ax) (env : Env) (st : Sto) : eCallF m ord dvs aa env st = (aa env st).bind fun xs st1 => m (arr .non ord xs dvs) st1 := rfl
@[simp] theorem sRet_eq (a : Ex) (env : Env) (st : Sto) : sRet a env st = (a env st).to env fun x st1 => .rt x st1 := rfl
@[simp] theorem sRetN_eq (env : Env) (st : Sto) : sRetN env st = .rt .non st := rfl
@[simp] theorem sNil_eq (env : Env) (st : Sto) : sNil env st = .nx env st := rfl
@[simp] theorem sBrk_eq (env : Env) (st : Sto) : sBrk env st = .bk env st := rfl
@[simp] theorem sCnt_eq (env : Env) (st : Sto) : sCnt env st = .ct env st := rfl
@[simp] theorem sDrop_eq (a : Ex) (env : Env) (st : Sto) : sDrop a env st = (a env st).to env fun _ st1 => .nx env st1 := rfl
@[simp] theorem sIf_eq (c : Tx) (a b : Sx) (env : Env) (st : Sto) : sIf c a b env st = (c env st).to env fun x st1 => if x then a env st1 else b env st1 := rfl
@[simp] theorem sAsg_eq (a : Ex) (i : Nat) (env : Env) (st : Sto) : sAsg a (gNm i) env st = (a env st).to env fun x st1 => .nx (env.set i (some x)) st1 := rfl
@[simp] theorem sSub_eq (s : Val → Val → Val → Sto → R Unit) (o i a : Ex) (env : Env) (st : Sto) : sSub s o i a env st = (a env st).to env fun x st1 => (o env st1).to env fun y st2 => (i env st2).to env fun z st3 => (s y z x st3).to env fun _ st4 => .nx env st4 := rfl
@[simp] theorem sPar_eq (i j : Nat) (a : Ax) (env : Env) (st : Sto) : sPar i j a env st = (a env st).to env fun xs st1 => match xs with
  | [x, y] => .nx ((env.set i (some x)).set j (some y)) st1
  | _ => .stuck := rfl
@[simp] theorem sPar3_eq (i j l : Nat) (a : Ax) (env : Env) (st : Sto) : sPar3 i j l a env st = (a env st).to env fun xs st1 => match xs with
  | [x, y, z] => .nx (((env.set i (some x)).set j (some y)).set l (some z)) st1
  | _ => .stuck := rfl
@[simp] theorem sAug_eq (i : Nat) (o : Val → Val → Sto → R Val) (a : Ex) (env : Env) (st : Sto) : sAug i o a env st = (getV env[i]? st).to env fun x _ => (a env st).to env fun y st1 => (o x y st1).to env fun z st2 => .nx (env.set i (some z)) st2 := by
  unfold sAug
  cases env[i]? with
  | none => rfl
  | some ov =>
    cases ov with
    | none => rfl
    | some v => cases v <;> rfl
@[simp] theorem eLm_eq (o : Val → List Val → Sto → R Val) (mo : Ex) (aa : Ax) (env : Env) (st : Sto) : eLm o mo aa env st = (mo env st).bind fun x st1 => if isL st1 x then (aa env st1).bind fun xs st2 => o x xs st2 else .stuck := rfl
@[simp] theorem eSl_eq (o : Ex) (lo hi : Ox) (env : Env) (st : Sto) : eSl o lo hi env st = (o env st).bind fun x st1 => (lo env st1).bind fun l st2 => (hi env st2).bind fun h st3 => match tupOf x with
  | some xs => .ok (if HT.sIx xs.length 0 l = 0 ∧ HT.sIx xs.length xs.length h = xs.length then x else .tup (cutL xs l h)) st3
  | none => match lstOf st3 x with
    | some xs => .ok (.loc st3.length) (st3 ++ [.lst (cutL xs l h)])
    | none => .stuck := rfl
@[simp] theorem oNoP_eq (env : Env) (st : Sto) : oNoP env st = .ok none st := rfl
@[simp] theorem oPart_eq (a : Ex) (env : Env) (st : Sto) : oPart a env st = (a env st).bind fun x st1 => match x with
  | .int i => .ok (some i) st1
  | _ => .stuck := rfl
@[simp] theorem eRev_eq (o : Ex) (env : Env) (st : Sto) : eRev o env st = (o env st).bind fun x st1 => match tupOf x with
  | some xs => .ok (.tup xs.reverse) st1
  | none => match lstOf st1 x with
    | some xs => .ok (.loc st1.length) (st1 ++ [.lst xs.reverse])
    | none => .stuck := rfl
@[simp] theorem oInt_eq (g : Int → Int → Val) (c : Int → Int → Bool) (i j : Int) (st : Sto) : oInt g c (.int i) (.int j) st = if c i j then .ok (g i j) st else .stuck := rfl
/-! ### loops -/
theorem forL_ok {gd : List (Nat × Ob)} {g : Gx} {b : Sx} {D : Dn} (I : List Val → Env → Sto → Prop) (hg : ∀ xs env st, I xs env st → ∀ p ∈ gd, st[p.1]? = some p.2) (h0 : ∀ env st, I [] env st → D.nx env st)
    (hs : ∀ x r env st, I (x :: r) env st → ∃ env1, g x env = some env1 ∧ OkS (b env1 st) { nx := I r, rt := D.rt, bk := D.nx, ct := I r }) : ∀ (xs : List Val) (env : Env) (st : Sto), I xs env st → OkS (forL gd g b xs env st) D
  | [], env, st, h => by
    unfold forL
    rw [if_pos (hg _ _ _ h)]
    exact h0 env st h
  | x :: r, env, st, h => by
    unfold forL
    rw [if_pos (hg _ _ _ h)]
    obtain ⟨env1, e1, q⟩ := hs x r env st h
    rw [e1]
    cases w : b env1 st with
    | nx e s => rw [w] at q; simp only [onG, w]; exact forL_ok I hg h0 hs r e s q
    | ct e s => rw [w] at q; simp only [onG, w]; exact forL_ok I hg h0 hs r e s q
    | bk e s => rw [w] at q; simp only [onG, w]; exact q
    | rt v s => rw [w] at q; simp only [onG, w]; exact q
    | er _ _ _ => rw [w] at q; exact q.elim
    | stuck => rw [w] at q; exact q.elim
@[simp] theorem sFor_eq (mi : Ix) (g : Gx) (b : Sx) (env : Env) (st : Sto) : sFor mi g b env st = (mi env st).to env fun xg st1 => forL xg.2 g b xg.1 env st1 := rfl
theorem lcL_ok {gd : List (Nat × Ob)} {g : Gx} {t : Tx} {m : Ex} {env : Env} {D : Nat} {Q : Unit → Sto → Prop} (J : List Val → List Val → Sto → Prop) (hg : ∀ xs acc st, J xs acc st → (∀ p ∈ gd, st[p.1]? = some p.2)) (h0 : ∀ acc st, J [] acc st → Q () st)
    (hs : ∀ x r acc st, J (x :: r) acc st → acc.length < 16777216 ∧ ∃ env1, g x env = some env1 ∧ Ok (t env1 st) fun b st1 => if b = true then Ok (m env1 st1) fun y st2 => st2[D]? = some (.lst acc) ∧ J r (acc ++ [y]) (st2.set D (.lst (acc ++ [y]))) else J r acc st1) :
    ∀ (xs acc : List Val) (st : Sto), J xs acc st → Ok (lcL gd g t m env D xs st) Q
  | [], acc, st, h => by
    unfold lcL
    rw [if_pos (hg _ _ _ h)]
    exact h0 acc st h
  | x :: r, acc, st, h => by
    unfold lcL
    rw [if_pos (hg _ _ _ h)]
    obtain ⟨hl, env1, e1, q⟩ := hs x r acc st h
    rw [e1]
    show Ok ((noErR (t env1 st)).bind _) Q
    rw [Ok_bind, Ok_noErR]
    refine q.imp fun b st1 qb => ?_
    cases b with
    | true =>
      rw [if_pos rfl] at qb ⊢
      rw [Ok_bind, Ok_noErR]
      refine qb.imp fun y st2 ⟨q1, q2⟩ => ?_
      simp only [q1]
      rw [if_pos hl]
      exact lcL_ok J hg h0 hs r _ _ q2
    | false =>
      rw [if_neg (by simp)] at qb ⊢
      exact lcL_ok J hg h0 hs r acc _ qb
@[simp] theorem eLc_eq (mi : Ix) (g : Gx) (t : Tx) (m : Ex) (vs : List Nat) (env : Env) (st : Sto) : eLc mi g t m vs env st = (mi env st).bind fun xg st1 => (lcL xg.2 g t m (wipeE env vs) st1.length xg.1 (st1 ++ [.lst []])).bind fun _ st2 => .ok (.loc st1.length) st2 := rfl
theorem seq_asg (a : Ex) (i : Nat) (b : Sx) (env : Env) (st : Sto) (D : Dn) : OkS (sSeq (sAsg a (gNm i)) b env st) D = Ok (a env st) fun x s => OkS (b (env.set i (some x)) s) D := by
  rw [OkS_seq, sAsg_eq, OkS_to]; rfl
theorem seq_drop (a : Ex) (b : Sx) (env : Env) (st : Sto) (D : Dn) : OkS (sSeq (sDrop a) b env st) D = Ok (a env st) fun _ s => OkS (b env s) D := by
  rw [OkS_seq, sDrop_eq, OkS_to]; rfl
theorem seq_for (mi : Ix) (g : Gx) (bd b : Sx) (env : Env) (st : Sto) (D : Dn) : OkS (sSeq (sFor mi g bd) b env st) D = Ok (mi env st) fun xg s => OkS (forL xg.2 g bd xg.1 env s) { nx := fun e s => OkS (b e s) D, rt := D.rt, bk := D.bk, ct := D.ct } := by
  rw [OkS_seq, sFor_eq, OkS_to]
theorem seq_if (c : Tx) (x y b : Sx) (env : Env) (st : Sto) (D : Dn) : OkS (sSeq (sIf c x y) b env st) D = Ok (c env st) fun q s => OkS (if q then x env s else y env s) { nx := fun e s => OkS (b e s) D, rt := D.rt, bk := D.bk, ct := D.ct } := by
  rw [OkS_seq, sIf_eq, OkS_to]
theorem seq_sub (k : Val → Val → Val → Sto → R Unit) (o i a : Ex) (b : Sx) (env : Env) (st : Sto) (D : Dn) : OkS (sSeq (sSub k o i a) b env st) D = Ok (a env st) fun x s1 => Ok (o env s1) fun y s2 => Ok (i env s2) fun z s3 => Ok (k y z x s3) fun _ s4 => OkS (b env s4) D := by
  rw [OkS_seq, sSub_eq, OkS_to]
  congr 1
  funext x s
  rw [OkS_to]
  congr 1
  funext x s
  rw [OkS_to]
  congr 1
  funext x s
  rw [OkS_to]
  rfl
theorem OkS_ret (a : Ex) (env : Env) (st : Sto) (D : Dn) : OkS (sRet a env st) D = Ok (a env st) D.rt := by
  rw [sRet_eq, OkS_to]; rfl
end Sm

/-! The Sim layer, part 16: deals: a list of cells and a stirred number, drawn from. -/
namespace Sm
open PySem L2
/-! ### data -/
theorem eqv_int (i j : Int) : PyData.eqv (.int i) (.int j) = decide (i = j) := by
  simp only [PyData.eqv]
  exact Bool.eq_iff_iff.mpr (by simp)
theorem oEq_int (neg : Bool) (i j : Int) (st : Sto) : oEq neg (.int i) (.int j) st = .ok (.bl (if neg then !decide (i = j) else decide (i = j))) st := by
  simp [oEq, oEqD, strPair, pd, deep, SeqAt.shaped, PyData.canLay0, PyData.depth, eqv_int]
theorem oEq_int_non (neg : Bool) (i : Int) (st : Sto) : oEq neg (.int i) .non st = .ok (.bl neg) st := by
  cases neg <;> simp [oEq, oEqD, strPair, pd, deep, SeqAt.shaped, PyData.canLay0, PyData.depth, PyData.eqv]
def ivs (xs : List Int) : List Val := xs.map .int
@[simp] theorem ivs_nil : ivs [] = [] := rfl
@[simp] theorem ivs_cons (x : Int) (xs : List Int) : ivs (x :: xs) = .int x :: ivs xs := rfl
@[simp] theorem ivs_length (xs : List Int) : (ivs xs).length = xs.length := List.length_map ..
theorem ivs_append (xs ys : List Int) : ivs (xs ++ ys) = ivs xs ++ ivs ys := List.map_append ..
theorem ivs_get {xs : List Int} {i : Nat} : (ivs xs)[i]? = xs[i]?.map .int := List.getElem?_map ..
theorem pd_int (st : Sto) (n : Nat) (i : Int) : pd st n (.int i) = some (.int i) := by cases n <;> rfl
theorem mapM_pd_ivs (st : Sto) (n : Nat) : ∀ xs : List Int, (ivs xs).mapM (pd st n) = some (xs.map PyData.int)
  | [] => rfl
  | x :: xs => by rw [ivs_cons, List.mapM_cons, pd_int, mapM_pd_ivs st n xs]; rfl
theorem canLayAll_ivs : ∀ xs : List Int, PyData.canLayAll0 (xs.map PyData.int) = true
  | [] => by simp [PyData.canLayAll0]
  | x :: xs => by simp [PyData.canLayAll0, PyData.canLay0, canLayAll_ivs xs]
theorem depthAll_ivs : ∀ xs : List Int, PyData.depthAll (xs.map PyData.int) ≤ 1
  | [] => by simp [PyData.depthAll]
  | x :: xs => by
    have := depthAll_ivs xs
    simp only [List.map_cons, PyData.depthAll, PyData.depth]
    omega
theorem shaped_ivsL (xs : List Int) : SeqAt.shaped (.list (xs.map PyData.int)) = true := by
  have := depthAll_ivs xs
  simp only [SeqAt.shaped, PyData.canLay0, canLayAll_ivs, Bool.true_and]
  refine decide_eq_true ?_
  simp only [PyData.depth]
  omega
theorem shaped_ivsT (xs : List Int) : SeqAt.shaped (.tuple (xs.map PyData.int)) = true := by
  have := depthAll_ivs xs
  simp only [SeqAt.shaped, PyData.canLay0, canLayAll_ivs, Bool.true_and]
  refine decide_eq_true ?_
  simp only [PyData.depth]
  omega
/-! ### the store -/
/-- other objects stand, but for the two of a deal -/
structure Fr (d c : Nat) (st st' : Sto) : Prop where
  len : st.length ≤ st'.length
  keep : ∀ l, l < st.length → l ≠ d → l ≠ c → st'[l]? = st[l]?
theorem Fr.refl {d c : Nat} {st : Sto} : Fr d c st st := ⟨Nat.le_refl _, fun _ _ _ _ => rfl⟩
theorem Fr.trans {d c : Nat} {st st' st'' : Sto} (a : Fr d c st st') (b : Fr d c st' st'') : Fr d c st st'' := ⟨Nat.le_trans a.len b.len, fun l h h1 h2 => (b.keep l (Nat.lt_of_lt_of_le h a.len) h1 h2).trans (a.keep l h h1 h2)⟩
theorem Fr.app {d c : Nat} {st : Sto} (xs : Sto) : Fr d c st (st ++ xs) := ⟨by simp, fun l h _ _ => List.getElem?_append_left h⟩
theorem Fr.setc {d c : Nat} {st : Sto} {o : Ob} : Fr d c st (st.set c o) := ⟨by simp, fun l _ _ h => List.getElem?_set_ne (Ne.symm h)⟩
theorem Fr.setd {d c : Nat} {st : Sto} {o : Ob} : Fr d c st (st.set d o) := ⟨by simp, fun l _ h _ => List.getElem?_set_ne (Ne.symm h)⟩
theorem Fr.at {d c : Nat} {st st' : Sto} (f : Fr d c st st') {l : Nat} {o : Ob} (h : st[l]? = some o) (h1 : l ≠ d) (h2 : l ≠ c) : st'[l]? = some o := (f.keep l (List.getElem?_eq_some_iff.mp h).1 h1 h2).trans h
structure DealL (st : Sto) (d c n : Nat) : Prop where
  hd : ∃ mix : Int, st[d]? = some (.lst [.loc c, .int mix]) ∧ 0 ≤ mix ∧ mix < 2147483647
  hc : ∃ cells : List Int, st[c]? = some (.lst (ivs cells)) ∧ (∀ x ∈ cells, 0 ≤ x) ∧ cells.length = n
  ne : d ≠ c
def Deal (st : Sto) (d c : Nat) : Prop := ∃ n, n ≤ 63 ∧ DealL st d c n
theorem DealL.app {st : Sto} {d c n : Nat} (h : DealL st d c n) (xs : Sto) : DealL (st ++ xs) d c n := by
  obtain ⟨⟨mix, h1, h2, h3⟩, ⟨cs, h4, h5, h6⟩, ne⟩ := h
  refine ⟨⟨mix, ?_, h2, h3⟩, ⟨cs, ?_, h5, h6⟩, ne⟩
  · rw [List.getElem?_append_left (List.getElem?_eq_some_iff.mp h1).1]; exact h1
  · rw [List.getElem?_append_left (List.getElem?_eq_some_iff.mp h4).1]; exact h4
theorem Deal.app {st : Sto} {d c : Nat} (h : Deal st d c) (xs : Sto) : Deal (st ++ xs) d c := let ⟨n, h1, h2⟩ := h; ⟨n, h1, h2.app xs⟩
theorem DealL.setc {st : Sto} {d c n m : Nat} (h : DealL st d c n) {cs : List Int} (h1 : ∀ x ∈ cs, 0 ≤ x) (h2 : cs.length = m) : DealL (st.set c (.lst (ivs cs))) d c m := by
  obtain ⟨⟨mix, q1, q2, q3⟩, ⟨cs', q4, q5, q6⟩, ne⟩ := h
  refine ⟨⟨mix, by rw [List.getElem?_set_ne (Ne.symm ne)]; exact q1, q2, q3⟩, ⟨cs, ?_, h1, h2⟩, ne⟩
  rw [List.getElem?_set_self (List.getElem?_eq_some_iff.mp q4).1]
theorem DealL.setd {st : Sto} {d c n : Nat} (h : DealL st d c n) {mix : Int} (h1 : 0 ≤ mix) (h2 : mix < 2147483647) : DealL (st.set d (.lst [.loc c, .int mix])) d c n := by
  obtain ⟨⟨mix', q1, q2, q3⟩, ⟨cs', q4, q5, q6⟩, ne⟩ := h
  refine ⟨⟨mix, ?_, h1, h2⟩, ⟨cs', by rw [List.getElem?_set_ne ne]; exact q4, q5, q6⟩, ne⟩
  rw [List.getElem?_set_self (List.getElem?_eq_some_iff.mp q1).1]
/-- objects apart from the deal stay -/
theorem Deal.fr {st st' : Sto} {d c : Nat} (h : Deal st d c) (hp : ∀ l, l = d ∨ l = c → st'[l]? = st[l]?) : Deal st' d c := by
  obtain ⟨n, hn, ⟨mix, q1, q2, q3⟩, ⟨cs', q4, q5, q6⟩, ne⟩ := h
  exact ⟨n, hn, ⟨mix, by rw [hp d (.inl rfl)]; exact q1, q2, q3⟩, ⟨cs', by rw [hp c (.inr rfl)]; exact q4, q5, q6⟩, ne⟩
/-! ### while -/
theorem whileN_ok {c : Tx} {b : Sx} {D : Dn} (I : Nat → Env → Sto → Prop) (hs : ∀ n env st, I n env st → Ok (c env st) fun q st1 => (q = true → ∃ m, n = m + 1 ∧ OkS (b env st1) { nx := I m, ct := I m, bk := D.nx, rt := D.rt }) ∧ (q = false → D.nx env st1)) :
    ∀ (f n : Nat) (env : Env) (st : Sto), n < f → I n env st → OkS (whileN c b f env st) D
  | 0, n, env, st, h, _ => absurd h (Nat.not_lt_zero _)
  | f + 1, n, env, st, h, hi => by
    unfold whileN
    rw [OkS_to]
    refine (hs n env st hi).imp fun q st1 ⟨h1, h2⟩ => ?_
    cases q with
    | false => exact h2 rfl
    | true =>
      obtain ⟨m, rfl, q⟩ := h1 rfl
      rw [if_pos rfl]
      cases w : b env st1 with
      | nx e s => rw [w] at q; exact whileN_ok I hs f m e s (Nat.lt_of_succ_lt_succ h) q
      | ct e s => rw [w] at q; exact whileN_ok I hs f m e s (Nat.lt_of_succ_lt_succ h) q
      | bk e s => rw [w] at q; exact q
      | rt v s => rw [w] at q; exact q
      | er _ _ _ => rw [w] at q; exact q.elim
      | stuck => rw [w] at q; exact q.elim
theorem fuel_lt {n : Nat} (h : n ≤ 16777216) : n < fuel := Nat.lt_of_le_of_lt h (by decide)
/-! ### one draw -/
def anyB (a b e : Int) : Sx :=
  (sSeq (sWhile (tAnd' (tVal (eOp (oEq true) (eOp oIx (eVar 0) (eC (.int 0))) (eLst aNil))) (tVal (eOp (oEq false) (eOp oIx (eOp oIx (eVar 0) (eC (.int 0))) (eUn oNeg (eC (.int 1)))) (eC (.int 0))))) (sDrop (eLm mPop (eOp oIx (eVar 0) (eC (.int 0))) aNil)))
    (sSeq (sIf (tVal (eOp (oEq true) (eOp oIx (eVar 0) (eC (.int 0))) (eLst aNil))) (sSeq (sAsg (eCall (one' oInt1) (aCons (eLm mPop (eOp oIx (eVar 0) (eC (.int 0))) aNil) aNil)) (gNm 2))
    (sSeq (sDrop (eLm mAppend (eOp oIx (eVar 0) (eC (.int 0))) (aCons (eOp oFdiv (eVar 2) (eVar 1)) aNil)))
    (sRet (eOp oMod (eVar 2) (eVar 1))))) sNil)
    (sSeq (sSub kSetL (eVar 0) (eC (.int 1)) (eOp oMod (eCall (one' oInt1) (aCons (eOp oAdd (eOp oMul (eOp oIx (eVar 0) (eC (.int 1))) (eC (.int a))) (eC (.int b))) aNil)) (eC (.int 2147483647))))
    (sRet (eOp oMod (eCall (one' oInt1) (aCons (eOp oFdiv (eOp oIx (eVar 0) (eC (.int 1))) (eC (.int e))) aNil)) (eVar 1))))))
theorem atI_zero {α : Type} (x : α) (xs : List α) : atI (x :: xs) 0 = some x := atI_nat (j := 0) rfl
theorem atI_one {α : Type} (x y : α) (xs : List α) : atI (x :: y :: xs) 1 = some y := atI_nat (j := 1) rfl
/-- deal[0], deal[1] -/
theorem ix_deal0 {st : Sto} {d c n : Nat} (h : DealL st d c n) : oIx (.loc d) (.int 0) st = .ok (.loc c) st := by
  obtain ⟨⟨mix, q1, q2, q3⟩, _, ne⟩ := h
  simp [oIx, seqOf, q1, atI_zero]
/-- deal[0] != [] -/
theorem ne_nil {st : Sto} {d c n : Nat} (h : DealL st d c n) : oEq true (.loc c) (.loc st.length) (st ++ [.lst []]) = .ok (.bl (decide (n ≠ 0))) (st ++ [.lst []]) := by
  obtain ⟨_, ⟨cs, q4, q5, q6⟩, ne⟩ := h
  have e1 : pd (st ++ [.lst []]) deep (.loc c) = some (.list (cs.map PyData.int)) := by
    show (match (st ++ [Ob.lst []])[c]? with | some (.lst xs) => (xs.mapM (pd _ 39)).map PyData.list | _ => none) = _
    rw [List.getElem?_append_left (List.getElem?_eq_some_iff.mp q4).1, q4]
    show ((ivs cs).mapM (pd _ 39)).map PyData.list = _
    rw [mapM_pd_ivs]; rfl
  have e2 : pd (st ++ [.lst []]) deep (.loc st.length) = some (.list []) := by
    show (match (st ++ [Ob.lst []])[st.length]? with | some (.lst xs) => (xs.mapM (pd _ 39)).map PyData.list | _ => none) = _
    rw [List.getElem?_append_right (Nat.le_refl _)]
    simp
  have e3 : SeqAt.shaped (.list []) = true := shaped_ivsL []
  show oEqD true _ _ _ = _
  unfold oEqD
  rw [e1, e2]
  simp only [shaped_ivsL, e3, Bool.and_self, if_true]
  congr 2
  subst q6
  cases cs with
  | nil => simp [PyData.eqv, PyData.eqvAll]
  | cons x r => simp [PyData.eqv, PyData.eqvAll]
theorem isL_cells {st : Sto} {d c n : Nat} (h : DealL st d c n) : isL st (.loc c) = true := by
  obtain ⟨_, ⟨cs, q4, _⟩, ne⟩ := h
  simp [isL, lstOf, q4]
theorem atI_neg1 {α : Type} {xs : List α} {y : α} (h : xs[xs.length - 1]? = some y) : atI xs (-1) = some y := by
  have hl : 0 < xs.length := by
    rcases Nat.eq_zero_or_pos xs.length with z | z
    · rw [List.length_eq_zero_iff.mp z] at h; cases h
    · exact z
  unfold atI ixN
  rw [if_neg (by decide), if_pos (by omega)]
  show xs[((-1 : Int) + xs.length).toNat]? = some y
  rw [show ((-1 : Int) + xs.length).toNat = xs.length - 1 by omega]
  exact h
theorem ix_last {st : Sto} {d c n : Nat} (h : DealL st d c n) (hn : n ≠ 0) : ∃ z : Int, oIx (.loc c) (.int (-1)) st = .ok (.int z) st := by
  obtain ⟨_, ⟨cs, q4, q5, q6⟩, ne⟩ := h
  obtain ⟨z, hz⟩ : ∃ z, cs[cs.length - 1]? = some z := ⟨cs[cs.length - 1]'(by omega), List.getElem?_eq_getElem _⟩
  refine ⟨z, ?_⟩
  have : atI (ivs cs) (-1) = some (.int z) := atI_neg1 (by rw [ivs_length, ivs_get, hz]; rfl)
  simp [oIx, seqOf, q4, this]
theorem pop_cells {st : Sto} {d c m : Nat} (h : DealL st d c (m + 1)) : ∃ (z : Int) (st' : Sto), 0 ≤ z ∧ mPop (.loc c) [] st = .ok (.int z) st' ∧ DealL st' d c m ∧ Fr d c st st' := by
  have h' := h
  obtain ⟨_, ⟨cs, q4, q5, q6⟩, ne⟩ := h
  obtain ⟨z, hz⟩ : ∃ z, cs[cs.length - 1]? = some z := ⟨cs[cs.length - 1]'(by omega), List.getElem?_eq_getElem _⟩
  refine ⟨z, st.set c (.lst (ivs cs.dropLast)), q5 z (List.mem_of_getElem? hz), ?_, h'.setc (fun x hx => q5 x (by rw [List.dropLast_eq_take] at hx; exact List.mem_of_mem_take hx)) (by rw [List.length_dropLast]; omega), .setc⟩
  have e : (ivs cs)[(ivs cs).length - 1]? = some (.int z) := by rw [ivs_length, ivs_get, hz]; rfl
  have e2 : (ivs cs).dropLast = ivs cs.dropLast := by unfold ivs; rw [List.map_dropLast]
  simp only [mPop, q4, e, e2]
theorem app_cells {st : Sto} {d c n : Nat} (h : DealL st d c n) {x : Int} (hx : 0 ≤ x) (hn : n < 16777216) : ∃ st', mAppend (.loc c) [.int x] st = .ok .non st' ∧ DealL st' d c (n + 1) ∧ Fr d c st st' := by
  have h' := h
  obtain ⟨_, ⟨cs, q4, q5, q6⟩, ne⟩ := h
  refine ⟨st.set c (.lst (ivs (cs ++ [x]))), ?_, h'.setc (fun y hy => ?_) (by rw [List.length_append, q6]; rfl), .setc⟩
  · have e : ivs cs ++ [.int x] = ivs (cs ++ [x]) := by rw [ivs_append]; rfl
    have hl : (ivs cs).length < 16777216 := by rw [ivs_length]; omega
    simp only [mAppend, q4, e]
    rw [if_pos hl]
  · rcases List.mem_append.mp hy with z | z
    · exact q5 y z
    · rw [List.mem_singleton.mp z]; exact hx
theorem bits_le {i : Int} {a : Nat} (h : i.natAbs < 2 ^ a) : Builtin.Int.intBits i ≤ a := PyProof.Rows.intBits_le h
theorem oMul_int {i j : Int} {st : Sto} {a b : Nat} (h1 : i.natAbs < 2 ^ a) (h2 : j.natAbs < 2 ^ b) (h : a + b ≤ 134217728) : oMul (.int i) (.int j) st = .ok (.int (i * j)) st := by
  have x := bits_le h1
  have y := bits_le h2
  show (if (Builtin.Int.intBits i : Int) + (Builtin.Int.intBits j : Int) ≤ 134217728 then R.ok (Val.int (i * j)) st else .stuck) = _
  rw [if_pos (by omega)]
theorem any_ok {a b e bound : Int} {st : Sto} {d c : Nat} (h : Deal st d c) (hb : 0 < bound) (hb2 : bound.natAbs.log2 < 9000) (ha : 0 ≤ a) (ha2 : a < 4294967296) (hbb : 0 ≤ b) (he : 0 < e) (he2 : e.natAbs.log2 < 9000) :
    Ok (runB 3 (anyB a b e) [.loc d, .int bound] st) fun v s => ∃ r, v = .int r ∧ 0 ≤ r ∧ r < bound ∧ Deal s d c ∧ Fr d c st s := by
  obtain ⟨n, hn, hd⟩ := h
  unfold anyB
  rw [Ok_run, OkS_seq]
  refine whileN_ok (fun k env s => k ≤ 63 ∧ env = [some (.loc d), some (.int bound), none] ∧ DealL s d c k ∧ Fr d c st s) (fun k env s ⟨hk, he', hs, hf⟩ => ?_) fuel n _ _ (fuel_lt (by omega)) ⟨hn, rfl, hd, .refl⟩
  · subst he'
    have hs1 := hs.app [.lst []]
    have hf1 : Fr d c st (s ++ [Ob.lst []]) := hf.trans (.app _)
    have after : ∀ s1, DealL s1 d c k → Fr d c st s1 → OkS ((sSeq (sIf (tVal (eOp (oEq true) (eOp oIx (eVar 0) (eC (.int 0))) (eLst aNil))) (sSeq (sAsg (eCall (one' oInt1) (aCons (eLm mPop (eOp oIx (eVar 0) (eC (.int 0))) aNil) aNil)) (gNm 2))
        (sSeq (sDrop (eLm mAppend (eOp oIx (eVar 0) (eC (.int 0))) (aCons (eOp oFdiv (eVar 2) (eVar 1)) aNil)))
        (sRet (eOp oMod (eVar 2) (eVar 1))))) sNil)
        (sSeq (sSub kSetL (eVar 0) (eC (.int 1)) (eOp oMod (eCall (one' oInt1) (aCons (eOp oAdd (eOp oMul (eOp oIx (eVar 0) (eC (.int 1))) (eC (.int a))) (eC (.int b))) aNil)) (eC (.int 2147483647))))
        (sRet (eOp oMod (eCall (one' oInt1) (aCons (eOp oFdiv (eOp oIx (eVar 0) (eC (.int 1))) (eC (.int e))) aNil)) (eVar 1))))) [some (.loc d), some (.int bound), none] s1)
        { nx := fun _ s => ∃ r, Val.non = .int r ∧ 0 ≤ r ∧ r < bound ∧ Deal s d c ∧ Fr d c st s, rt := fun v s => ∃ r, v = .int r ∧ 0 ≤ r ∧ r < bound ∧ Deal s d c ∧ Fr d c st s } := by
      intro s1 h1 f1
      have h2 := h1.app [.lst []]
      have f2 : Fr d c st (s1 ++ [Ob.lst []]) := f1.trans (.app _)
      by_cases hk0 : k = 0
      · subst hk0
        obtain ⟨mix, q1, q2, q3⟩ := h2.hd
        have i1 : oIx (.loc d) (.int 1) (s1 ++ [Ob.lst []]) = .ok (.int mix) (s1 ++ [Ob.lst []]) := by simp [oIx, seqOf, q1, atI_one]
        have m1 : oMul (.int mix) (.int a) (s1 ++ [Ob.lst []]) = .ok (.int (mix * a)) (s1 ++ [Ob.lst []]) := oMul_int (a := 31) (b := 32) (by omega) (by omega) (by decide)
        have hm0 : 0 ≤ (mix * a + b) % 2147483647 := Int.emod_nonneg _ (by decide)
        have hm1 : (mix * a + b) % 2147483647 < 2147483647 := Int.emod_lt_of_pos _ (by decide)
        have h3 := h2.setd hm0 hm1
        have ix1 : ixN 2 1 = some 1 := by decide
        have i2 : oIx (.loc d) (.int 1) ((s1 ++ [Ob.lst []]).set d (Ob.lst [.loc c, .int ((mix * a + b) % 2147483647)])) = .ok (.int ((mix * a + b) % 2147483647)) ((s1 ++ [Ob.lst []]).set d (Ob.lst [.loc c, .int ((mix * a + b) % 2147483647)])) := by
          obtain ⟨mix', q1', q2', q3'⟩ := h3.hd
          rw [List.getElem?_set_self (List.getElem?_eq_some_iff.mp q1).1] at q1'
          cases q1'
          have q1'' : ((s1 ++ [Ob.lst []]).set d (Ob.lst [.loc c, .int ((mix * a + b) % 2147483647)]))[d]? = some (.lst [.loc c, .int ((mix * a + b) % 2147483647)]) := List.getElem?_set_self (List.getElem?_eq_some_iff.mp q1).1
          simp [oIx, seqOf, q1'', atI_one]
        have hfin : ∃ r, Val.int ((mix * a + b) % 2147483647 / e % bound) = .int r ∧ 0 ≤ r ∧ r < bound ∧ Deal ((s1 ++ [Ob.lst []]).set d (Ob.lst [.loc c, .int ((mix * a + b) % 2147483647)])) d c ∧ Fr d c st ((s1 ++ [Ob.lst []]).set d (Ob.lst [.loc c, .int ((mix * a + b) % 2147483647)])) :=
          ⟨_, rfl, Int.emod_nonneg _ (by omega), Int.emod_lt_of_pos _ hb, ⟨0, by omega, h3⟩, f2.trans .setd⟩
        have k1 : kSetL (.loc d) (.int 1) (.int ((mix * a + b) % 2147483647)) (s1 ++ [Ob.lst []]) = .ok () ((s1 ++ [Ob.lst []]).set d (Ob.lst [.loc c, .int ((mix * a + b) % 2147483647)])) := by
          simp [kSetL, q1, ix1]
        simp only [OkS_seq, sIf_eq, tVal_eq, eOp_eq, eVar_eq, eC_eq, eLst_eq, aNil_eq, List.getElem?_cons_zero, List.getElem?_cons_succ, getV_loc, getV_int, R.bind_ok, R.to_ok, ix_deal0 h1, ne_nil h1, List.length_nil, Nat.zero_le, if_true, ne_eq, not_true_eq_false, decide_false, ifB_bl, Bool.false_eq_true, if_false, sNil_eq, OkS_nx,
          sSub_eq, eCall_eq, aCons_eq, i1, m1, oAdd, one', oInt1, oInt_eq, k1, sRet_eq, i2]
        simp [oAdd, oInt1, oInt_eq, k1, i2, he, he2, hb, one']
        exact ⟨Int.emod_nonneg _ (by omega), Int.emod_lt_of_pos _ hb, ⟨0, by omega, h3⟩, f2.trans .setd⟩
      · obtain ⟨m, rfl⟩ : ∃ m, k = m + 1 := ⟨k - 1, by omega⟩
        obtain ⟨z, s3, hz, p1, p2, p3⟩ := pop_cells h2
        have L2 := isL_cells h2
        have L3 := isL_cells p2
        have hq : 0 ≤ z / bound := Int.ediv_nonneg hz (by omega)
        obtain ⟨s4, a1, a2, a3⟩ := app_cells p2 hq (by omega)
        have hfin : ∃ r, Val.int (z % bound) = .int r ∧ 0 ≤ r ∧ r < bound ∧ Deal s4 d c ∧ Fr d c st s4 := ⟨_, rfl, Int.emod_nonneg _ (by omega), Int.emod_lt_of_pos _ hb, ⟨m + 1, hk, a2⟩, (f2.trans p3).trans a3⟩
        simp only [OkS_seq, sIf_eq, tVal_eq, eOp_eq, eVar_eq, eC_eq, eLst_eq, aNil_eq, List.getElem?_cons_zero, List.getElem?_cons_succ, getV_loc, getV_int, R.bind_ok, R.to_ok, ix_deal0 h1, ne_nil h1, List.length_nil, Nat.zero_le, if_true, ne_eq, Nat.add_eq_zero_iff, Nat.one_ne_zero, and_false, not_false_eq_true, decide_true, ifB_bl,
          sAsg_eq, eCall_eq, aCons_eq, eLm_eq, ix_deal0 h2, L2, p1, one', oInt1, OkS_nx, List.set_cons_succ, List.set_cons_zero, sDrop_eq, ix_deal0 p2, L3, oInt_eq, hb, hb2, decide_true, and_self, a1, sRet_eq, OkS_rt]
        exact hfin
    by_cases hk0 : k = 0
    · subst hk0
      have q0 : (tAnd' (tVal (eOp (oEq true) (eOp oIx (eVar 0) (eC (.int 0))) (eLst aNil))) (tVal (eOp (oEq false) (eOp oIx (eOp oIx (eVar 0) (eC (.int 0))) (eUn oNeg (eC (.int 1)))) (eC (.int 0))))) [some (.loc d), some (.int bound), none] s = .ok false (s ++ [Ob.lst []]) := by
        simp [ix_deal0 hs, ne_nil hs]
      rw [q0]
      exact ⟨fun z => Bool.noConfusion z, fun _ => after _ hs1 hf1⟩
    · obtain ⟨z, iz⟩ := ix_last hs1 hk0
      have q0 : (tAnd' (tVal (eOp (oEq true) (eOp oIx (eVar 0) (eC (.int 0))) (eLst aNil))) (tVal (eOp (oEq false) (eOp oIx (eOp oIx (eVar 0) (eC (.int 0))) (eUn oNeg (eC (.int 1)))) (eC (.int 0))))) [some (.loc d), some (.int bound), none] s = .ok (decide (z = 0)) (s ++ [Ob.lst []]) := by
        simp [ix_deal0 hs, ix_deal0 hs1, ne_nil hs, hk0, oNeg, iz, oEq_int]
      rw [q0]
      refine ⟨fun _ => ?_, fun _ => after _ hs1 hf1⟩
      obtain ⟨m, rfl⟩ : ∃ m, k = m + 1 := ⟨k - 1, by omega⟩
      obtain ⟨z2, s3, hz, p1, p2, p3⟩ := pop_cells hs1
      refine ⟨m, rfl, ?_⟩
      have L2 := isL_cells hs1
      simp [ix_deal0 hs1, L2, p1]
      exact ⟨by omega, p2, hf1.trans p3⟩
end Sm

/-! The Sim layer, part 17: octets and numbers; picks from a deal. -/
namespace Sm
open PySem L2
def Oct (bs : List Int) : Prop := ∀ b ∈ bs, 0 ≤ b ∧ b < 256
/-- the number of octets, the least first -/
def nm : List Int → Int
  | [] => 0
  | b :: r => b + 256 * nm r
/-- k octets of a number, the least first -/
def le (k : Nat) (n : Int) : List Int := (List.range k).map fun j => n / 256 ^ j % 256
theorem le_length (k : Nat) (n : Int) : (le k n).length = k := by simp [le]
theorem le_oct (k : Nat) (n : Int) : Oct (le k n) := fun b hb => by
  obtain ⟨j, _, rfl⟩ := List.mem_map.mp hb
  exact ⟨Int.emod_nonneg _ (by decide), Int.emod_lt_of_pos _ (by decide)⟩
theorem le_succ (k : Nat) (n : Int) : le (k + 1) n = le k n ++ [n / 256 ^ k % 256] := by simp [le, List.range_succ]
theorem nm_append (xs ys : List Int) : nm (xs ++ ys) = nm xs + 256 ^ xs.length * nm ys := by
  induction xs with
  | nil => simp [nm]
  | cons x r ih =>
    simp only [List.cons_append, nm, ih, List.length_cons, Int.pow_succ]
    rw [Int.mul_add, ← Int.mul_assoc, Int.mul_comm 256 (256 ^ r.length), Int.add_assoc]
theorem pow_pos256 (k : Nat) : (0 : Int) < 256 ^ k := Int.pow_pos (by decide)
theorem nm_bound {bs : List Int} (h : Oct bs) : 0 ≤ nm bs ∧ nm bs < 256 ^ bs.length := by
  induction bs with
  | nil => simp [nm]
  | cons b r ih =>
    obtain ⟨h1, h2⟩ := h b List.mem_cons_self
    obtain ⟨h3, h4⟩ := ih fun x hx => h x (List.mem_cons_of_mem _ hx)
    simp only [nm, List.length_cons, Int.pow_succ]
    omega
theorem nm_le {n : Int} (hn : 0 ≤ n) : ∀ k : Nat, nm (le k n) = n % 256 ^ k
  | 0 => by simp [le, nm, Int.emod_one]
  | k + 1 => by
    have h0 := pow_pos256 k
    rw [le_succ, nm_append, nm_le hn k, le_length]
    simp only [nm, Int.mul_zero, Int.add_zero]
    rw [Int.emod_def n (256 ^ k), Int.emod_def n (256 ^ (k + 1)), Int.emod_def (n / 256 ^ k) 256, Int.pow_succ, ← Int.ediv_ediv_of_nonneg (Int.le_of_lt h0), Int.mul_sub, Int.mul_assoc]
    omega
theorem nm_le_of {n : Int} {k : Nat} (hn : 0 ≤ n) (h : n < 256 ^ k) : nm (le k n) = n := by rw [nm_le hn, Int.emod_eq_of_lt hn h]
theorem nm_lt_abs {bs : List Int} (h : Oct bs) : (nm bs).natAbs < 2 ^ (8 * bs.length) := by
  obtain ⟨h1, h2⟩ := nm_bound h
  have e : (256 : Int) ^ bs.length = ((2 ^ (8 * bs.length) : Nat) : Int) := by
    rw [Nat.pow_mul]
    norm_cast
  omega
/-! ### number_of -/
noncomputable def numB : Sx :=
  (sSeq (sAsg (eC (.int 0)) (gNm 1))
    (sSeq (sFor (iSeq (eRev (eVar 0))) (gNm 2)
    (sAsg (eOp oAdd (eOp oMul (eC (.int 256)) (eVar 1)) (eVar 2)) (gNm 1)))
    (sRet (eVar 1))))
theorem oAdd_int (i j : Int) (st : Sto) : oAdd (.int i) (.int j) st = .ok (.int (i + j)) st := rfl
theorem num_loop {st : Sto} {v : Val} {D : Dn} : ∀ (ys zs : List Int) (e2 : Option Val), Oct ys → Oct zs → ys.length + zs.length ≤ 1000 → (∀ e2, D.nx [some v, some (.int (nm (ys.reverse ++ zs))), e2] st) →
    OkS (forL [] (gNm 2) (sAsg (eOp oAdd (eOp oMul (eC (.int 256)) (eVar 1)) (eVar 2)) (gNm 1)) (ivs ys) [some v, some (.int (nm zs)), e2] st) D
  | [], zs, e2, _, _, _, h => by simpa [forL] using h e2
  | y :: r, zs, e2, hy, hz, hl, h => by
    have m1 : oMul (.int 256) (.int (nm zs)) st = .ok (.int (256 * nm zs)) st := oMul_int (a := 9) (b := 8 * zs.length) (by decide) (nm_lt_abs hz) (by simp only [List.length_cons] at hl; omega)
    have hz' : Oct (y :: zs) := fun x hx => by
      rcases List.mem_cons.mp hx with e | hx
      · rw [e]; exact hy y List.mem_cons_self
      · exact hz x hx
    have body : (sAsg (eOp oAdd (eOp oMul (eC (.int 256)) (eVar 1)) (eVar 2)) (gNm 1)) [some v, some (.int (nm zs)), some (.int y)] st = .nx [some v, some (.int (nm (y :: zs))), some (.int y)] st := by
      simp [m1, oAdd_int, nm, Int.add_comm]
    unfold forL
    rw [ivs_cons]
    simp only
    rw [if_pos (by simp)]
    have g1 : gNm 2 (.int y) [some v, some (.int (nm zs)), e2] = some [some v, some (.int (nm zs)), some (.int y)] := rfl
    simp only [g1, onG, body]
    refine num_loop r (y :: zs) _ (fun x hx => hy x (List.mem_cons_of_mem _ hx)) hz' (by simp only [List.length_cons] at hl ⊢; omega) fun e2 => ?_
    have := h e2
    rwa [List.reverse_cons, List.append_assoc] at this
theorem num_ok {st : Sto} {v : Val} {bs : List Int} (hv : tupOf v = some (ivs bs)) (hb : Oct bs) (hl : bs.length ≤ 1000) : runB 3 numB [v] st = .ok (.int (nm bs)) st := by
  have ho : getV (some (some v)) st = .ok v st := by cases v <;> first | rfl | cases hv
  have h : Ok (runB 3 numB [v] st) fun a s => a = .int (nm bs) ∧ s = st := by
    unfold numB
    simp only [Ok_run, OkS_seq, sFor_eq, OkS_to, sAsg_eq, eC_eq, Ok_ok, OkS_nx, iSeq, eRev_eq, eVar_eq]
    simp only [List.map_cons, List.map_nil, List.length_cons, List.length_nil, List.cons_append, List.nil_append, List.replicate, List.set_cons_succ, List.set_cons_zero, List.getElem?_cons_zero, ho, R.bind_ok, hv, Ok_ok]
    have e : (ivs bs).reverse = ivs bs.reverse := by unfold ivs; rw [List.map_reverse]
    rw [e]
    refine num_loop bs.reverse [] none (fun x hx => hb x (List.mem_reverse.mp hx)) (fun x hx => nomatch hx) (by simpa using hl) fun e2 => ?_
    simp
  exact Ok_eq h
/-! ### octets_of, low -/
noncomputable def octB : Sx :=
  (sSeq (sPar 2 3 (aCons (eLst aNil) (aCons (eVar 0) aNil)))
    (sSeq (sFor (iRange1 (eVar 1)) (gNm 4)
    (sSeq (sDrop (eLm mAppend (eVar 2) (aCons (eOp oAnd (eVar 3) (eC (.int 255))) aNil)))
    (sAug 3 oShr (eC (.int 8)))))
    (sSeq (sIf (tVal (eOp oGt (eVar 3) (eC (.int 0)))) (sRaise ("InvalidSize" : Str) ("word" : Str) (eC (.str ("number" : Str)))) sNil)
    (sRet (eCall (one' oTuple) (aCons (eVar 2) aNil))))))
noncomputable def lowB : Sx :=
  (sSeq (sAsg (eLst aNil) (gNm 2))
    (sSeq (sFor (iRange1 (eVar 1)) (gNm 3)
    (sSeq (sDrop (eLm mAppend (eVar 2) (aCons (eOp oMod (eCall (one' oInt1) (aCons (eVar 0) aNil)) (eC (.int 256))) aNil)))
    (sAsg (eOp oFdiv (eVar 0) (eC (.int 256))) (gNm 0))))
    (sRet (eCall (one' oTuple) (aCons (eVar 2) aNil)))))
theorem append_at {st : Sto} {xs : List Val} {y : Val} (h : xs.length < 16777216) : mAppend (.loc st.length) [y] (st ++ [Ob.lst xs]) = .ok .non (st ++ [Ob.lst (xs ++ [y])]) := by
  have e : (st ++ [Ob.lst xs])[st.length]? = some (.lst xs) := by rw [List.getElem?_append_right (Nat.le_refl _)]; simp
  have e2 : (st ++ [Ob.lst xs]).set st.length (.lst (xs ++ [y])) = st ++ [Ob.lst (xs ++ [y])] := by
    rw [List.set_append_right _ _ (Nat.le_refl _)]; simp
  simp only [mAppend, e]
  rw [if_pos h, e2]
theorem isL_at {st : Sto} {xs : List Val} : isL (st ++ [Ob.lst xs]) (.loc st.length) = true := by
  have e : (st ++ [Ob.lst xs])[st.length]? = some (.lst xs) := by rw [List.getElem?_append_right (Nat.le_refl _)]; simp
  simp [isL, lstOf, e]
theorem oTuple_at {st : Sto} {xs : List Val} : oTuple (.loc st.length) (st ++ [Ob.lst xs]) = .ok (.tup xs) (st ++ [Ob.lst xs]) := by
  have e : (st ++ [Ob.lst xs])[st.length]? = some (.lst xs) := by rw [List.getElem?_append_right (Nat.le_refl _)]; simp
  simp [oTuple, tupOf, lstOf, e]
theorem ediv_pow_succ (n : Int) (j : Nat) : n / 256 ^ j / 256 = n / 256 ^ (j + 1) := by
  rw [Int.pow_succ, Int.ediv_ediv_of_nonneg (Int.le_of_lt (pow_pos256 j))]
theorem range_items {I : Nat → Env → Sto → Prop} {g : Gx} {b : Sx} {D : Dn} {f : Nat → Val} {n : Nat} (hs : ∀ j env st, j < n → I j env st → ∃ env1, g (f j) env = some env1 ∧ OkS (b env1 st) { nx := I (j + 1), rt := D.rt, bk := D.nx, ct := I (j + 1) }) (h0 : ∀ env st, I n env st → D.nx env st) {env : Env} {st : Sto} (h : I 0 env st) :
    OkS (forL [] g b ((List.range n).map f) env st) D := by
  refine forL_ok (fun xs env st => ∃ j, xs = ((List.range n).drop j).map f ∧ j ≤ n ∧ I j env st) (fun _ _ _ _ => by simp) (fun env st ⟨j, e, hj, hi⟩ => ?_) (fun x r env st ⟨j, e, hj, hi⟩ => ?_) _ env st ⟨0, by simp, Nat.zero_le _, h⟩
  · have hl := congrArg List.length e
    simp at hl
    have : j = n := by omega
    subst this
    exact h0 env st hi
  · have hl := congrArg List.length e
    simp at hl
    have hjn : j < n := by omega
    have e2 : (List.range n).drop j = j :: (List.range n).drop (j + 1) := by
      rw [List.drop_eq_getElem_cons (by simpa using hjn)]
      simp
    rw [e2, List.map_cons] at e
    injection e with ex er
    subst ex
    obtain ⟨env1, g1, q⟩ := hs j env st hjn hi
    exact ⟨env1, g1, q.imp (fun e s z => ⟨j + 1, er, hjn, z⟩) (fun _ _ z => z) (fun _ _ z => z) (fun e s z => ⟨j + 1, er, hjn, z⟩)⟩
theorem oct_ok {st : Sto} {n z : Int} {k : Nat} (hz : z = (k : Int)) (hn : 0 ≤ n) (hk : k ≤ 1000) (h : n < 256 ^ k) : runB 5 octB [.int n, .int z] st = .ok (.tup (ivs (le k n))) (st ++ [Ob.lst (ivs (le k n))]) := by
  have hh : Ok (runB 5 octB [.int n, .int z] st) fun a s => a = .tup (ivs (le k n)) ∧ s = st ++ [Ob.lst (ivs (le k n))] := by
    unfold octB
    have r1 : iRange1 (eVar 1) [some (.int n), some (.int z), some (.loc st.length), some (.int n), none] (st ++ [Ob.lst []]) = .ok ((List.range k).map fun (i : Nat) => Val.int (i : Int), []) (st ++ [Ob.lst []]) := by
      show (if -(2 ^ 62) ≤ z ∧ z < 2 ^ 62 then R.ok ((List.range z.toNat).map fun (i : Nat) => Val.int (i : Int), []) (st ++ [Ob.lst []]) else .stuck) = _
      rw [if_pos ⟨by omega, by omega⟩, hz, Int.toNat_natCast]
    simp only [Ok_run, OkS_seq, sPar_eq, aCons_eq, eLst_eq, aNil_eq, OkS_to, eVar_eq]
    simp only [List.map_cons, List.map_nil, List.length_cons, List.length_nil, List.cons_append, List.nil_append, List.replicate, List.getElem?_cons_zero, List.getElem?_cons_succ, getV_int, R.bind_ok, Nat.zero_le, if_true, Ok_ok, OkS_nx, List.set_cons_succ, List.set_cons_zero, sFor_eq, OkS_to]
    rw [r1]
    simp only [Ok_ok]
    refine range_items (n := k) (I := fun j env s => ∃ e4, env = [some (.int n), some (.int z), some (.loc st.length), some (.int (n / 256 ^ j)), e4] ∧ s = st ++ [Ob.lst (ivs (le j n))]) (fun j env s hj ⟨e4, he, hs⟩ => ?_) (fun env s ⟨e4, he, hs⟩ => ?_) ⟨none, by simp, by simp [le]⟩
    · subst he hs
      refine ⟨_, rfl, ?_⟩
      have h0 : 0 ≤ n / 256 ^ j := Int.ediv_nonneg hn (Int.le_of_lt (pow_pos256 j))
      have b1 : Builtin.bitAnd (n / 256 ^ j) 255 = n / 256 ^ j % 256 := Bits.bitAnd_mask 8 h0
      have b2 : n / 256 ^ j / 2 ^ (8 : Int).toNat = n / 256 ^ (j + 1) := ediv_pow_succ n j
      have a1 := append_at (st := st) (xs := ivs (le j n)) (y := .int (n / 256 ^ j % 256)) (by rw [ivs_length, le_length]; omega)
      have L1 := isL_at (st := st) (xs := ivs (le j n))
      have e1 : ivs (le j n) ++ [.int (n / 256 ^ j % 256)] = ivs (le (j + 1) n) := by rw [le_succ, ivs_append]; rfl
      simp only [OkS_seq, sDrop_eq, eLm_eq, eVar_eq, eOp_eq, eC_eq, aCons_eq, aNil_eq, gNm, List.set_cons_succ, List.set_cons_zero, List.getElem?_cons_zero, List.getElem?_cons_succ, getV_loc, getV_int, R.bind_ok, L1, if_true, oInt_eq, b1, a1, R.to_ok, OkS_nx, sAug_eq, e1]
      rw [if_pos (by decide)]
      simp only [R.to_ok, OkS_nx, b2]
      exact ⟨_, rfl, trivial⟩
    · subst he hs
      have h0 : n / 256 ^ k = 0 := Int.ediv_eq_zero_of_lt hn h
      have t1 := oTuple_at (st := st) (xs := ivs (le k n))
      simp [h0, one', t1]
  exact Ok_eq hh
theorem low_ok {st : Sto} {n z : Int} {k : Nat} (hz : z = (k : Int)) (hn : 0 ≤ n) (hk : k ≤ 1000) : runB 4 lowB [.int n, .int z] st = .ok (.tup (ivs (le k n))) (st ++ [Ob.lst (ivs (le k n))]) := by
  have hh : Ok (runB 4 lowB [.int n, .int z] st) fun a s => a = .tup (ivs (le k n)) ∧ s = st ++ [Ob.lst (ivs (le k n))] := by
    unfold lowB
    have r1 : iRange1 (eVar 1) [some (.int n), some (.int z), some (.loc st.length), none] (st ++ [Ob.lst []]) = .ok ((List.range k).map fun (i : Nat) => Val.int (i : Int), []) (st ++ [Ob.lst []]) := by
      show (if -(2 ^ 62) ≤ z ∧ z < 2 ^ 62 then R.ok ((List.range z.toNat).map fun (i : Nat) => Val.int (i : Int), []) (st ++ [Ob.lst []]) else .stuck) = _
      rw [if_pos ⟨by omega, by omega⟩, hz, Int.toNat_natCast]
    simp only [Ok_run, OkS_seq, sAsg_eq, eLst_eq, aNil_eq, OkS_to]
    simp only [List.map_cons, List.map_nil, List.length_cons, List.length_nil, List.cons_append, List.nil_append, List.replicate, R.bind_ok, Nat.zero_le, if_true, Ok_ok, OkS_nx, List.set_cons_succ, List.set_cons_zero, sFor_eq, OkS_to]
    rw [r1]
    simp only [Ok_ok]
    refine range_items (n := k) (I := fun j env s => ∃ e4, env = [some (.int (n / 256 ^ j)), some (.int z), some (.loc st.length), e4] ∧ s = st ++ [Ob.lst (ivs (le j n))]) (fun j env s hj ⟨e4, he, hs⟩ => ?_) (fun env s ⟨e4, he, hs⟩ => ?_) ⟨none, by simp, by simp [le]⟩
    · subst he hs
      refine ⟨_, rfl, ?_⟩
      have a1 := append_at (st := st) (xs := ivs (le j n)) (y := .int (n / 256 ^ j % 256)) (by rw [ivs_length, le_length]; omega)
      have L1 := isL_at (st := st) (xs := ivs (le j n))
      have e1 : ivs (le j n) ++ [.int (n / 256 ^ j % 256)] = ivs (le (j + 1) n) := by rw [le_succ, ivs_append]; rfl
      simp only [OkS_seq, sDrop_eq, eLm_eq, eVar_eq, eOp_eq, eC_eq, aCons_eq, aNil_eq, gNm, List.set_cons_succ, List.set_cons_zero, List.getElem?_cons_zero, List.getElem?_cons_succ, getV_loc, getV_int, R.bind_ok, L1, if_true, oInt_eq, eCall_eq, one', oInt1]
      rw [if_pos (by decide)]
      simp only [R.bind_ok, a1, R.to_ok, OkS_nx, sAsg_eq, eVar_eq, eOp_eq, eC_eq, List.getElem?_cons_zero, getV_int, oInt_eq, e1]
      rw [if_pos (by decide)]
      simp only [R.to_ok, OkS_nx, ediv_pow_succ, List.set_cons_zero]
      exact ⟨_, rfl, trivial⟩
    · subst he hs
      have t1 := oTuple_at (st := st) (xs := ivs (le k n))
      simp [one', t1]
  exact Ok_eq hh
/-! ### picks -/
noncomputable def ofB (m : Fx) : Sx := (sRet (eOp oIx (eVar 1) (eCallF m [.inl 0, .inl 1] [] (aCons (eVar 0) (aCons (eCall (one' oLen) (aCons (eVar 1) aNil)) aNil)))))
/-- what a draw does -/
def AnyOk (m : Fx) : Prop := ∀ (bound : Int) (st : Sto) (d c : Nat), Deal st d c → 0 < bound → bound.natAbs.log2 < 9000 → Ok (m [.loc d, .int bound] st) fun v s => ∃ r, v = .int r ∧ 0 ≤ r ∧ r < bound ∧ Deal s d c ∧ Fr d c st s
theorem anyOk {a b e : Int} (ha : 0 ≤ a) (ha2 : a < 4294967296) (hbb : 0 ≤ b) (he : 0 < e) (he2 : e.natAbs.log2 < 9000) : AnyOk (runB 3 (anyB a b e)) := fun bound st d c h h1 h2 => any_ok h h1 h2 ha ha2 hbb he he2
theorem of_ok {m : Fx} (hm : AnyOk m) {st : Sto} {d c l : Nat} {xs : List Val} (h : Deal st d c) (hl : st[l]? = some (.lst xs)) (h1 : l ≠ d) (h2 : l ≠ c) (hx : xs ≠ []) (hz : xs.length < 16777216) :
    Ok (runB 2 (ofB m) [.loc d, .loc l] st) fun v s => v ∈ xs ∧ Deal s d c ∧ Fr d c st s := by
  have hp : 0 < xs.length := List.length_pos_iff.mpr hx
  have l1 : oLen (.loc l) st = .ok (.int xs.length) st := by simp [oLen, seqOf, hl]
  have hb : ((xs.length : Int)).natAbs.log2 < 9000 := by
    have : ((xs.length : Int)).natAbs = xs.length := by omega
    rw [this]
    have := Nat.log2_lt (n := xs.length) (k := 9000) (by omega)
    exact this.mpr (Nat.lt_of_lt_of_le hz (Nat.le_trans (by decide : 16777216 ≤ 2 ^ 24) (Nat.pow_le_pow_right (by decide) (by decide))))
  unfold ofB
  rw [Ok_run]
  simp only [List.map_cons, List.map_nil, List.length_cons, List.length_nil, List.cons_append, List.nil_append, List.replicate, sRet_eq, OkS_to, eOp_eq, Ok_bind, eVar_eq, List.getElem?_cons_succ, List.getElem?_cons_zero, getV_loc, Ok_ok, eCallF_eq, aCons_eq, eCall_eq, aNil_eq, R.bind_ok, one', l1, arr]
  refine (hm xs.length st d c h (by omega) hb).imp fun v s ⟨r, e, h3, h4, h5, h6⟩ => ?_
  subst e
  obtain ⟨j, rfl⟩ : ∃ j : Nat, r = (j : Int) := ⟨r.toNat, by omega⟩
  have hj : j < xs.length := by omega
  have a1 : atI xs (j : Int) = some xs[j] := atI_nat (List.getElem?_eq_getElem hj)
  have l2 := h6.at hl h1 h2
  simp [oIx, seqOf, l2, a1]
  exact ⟨h5, h6⟩
end Sm

/-! The Sim layer, part 18: lists of draws; a deal laid. -/
namespace Sm
open PySem L2
theorem Fr.setNew {d c D : Nat} {st s : Sto} {o : Ob} (h : Fr d c st s) (hD : st.length ≤ D) : Fr d c st (s.set D o) :=
  ⟨by rw [List.length_set]; exact h.len, fun l hl h1 h2 => by rw [List.getElem?_set_ne (by omega)]; exact h.keep l hl h1 h2⟩
theorem Deal.lt {d c : Nat} {st : Sto} (h : Deal st d c) : d < st.length ∧ c < st.length ∧ d ≠ c := by
  obtain ⟨n, hn, ⟨mix, q1, _⟩, ⟨cs, q4, _⟩, ne⟩ := h
  exact ⟨(List.getElem?_eq_some_iff.mp q1).1, (List.getElem?_eq_some_iff.mp q4).1, ne⟩
theorem Deal.setOther {d c D : Nat} {st : Sto} {o : Ob} (h : Deal st d c) (h1 : D ≠ d) (h2 : D ≠ c) : Deal (st.set D o) d c := h.fr fun l hl => by
  rcases hl with rfl | rfl
  · exact List.getElem?_set_ne h1
  · exact List.getElem?_set_ne h2
theorem at_new {st : Sto} {o : Ob} : (st ++ [o])[st.length]? = some o := by rw [List.getElem?_append_right (Nat.le_refl _)]; simp
/-- [any(deal, b) for x in ..] -/
theorem lcAny {m : Fx} (hm : AnyOk m) {mi : Ix} {i d c : Nat} {b : Int} {env : Env} {st st1 : Sto} {items : List Val} (hmi : mi env st = .ok (items, []) st1) (h : Deal st1 d c) (hi : i ≠ 0) (he : env[0]? = some (some (.loc d))) (hb : 0 < b) (hb2 : b.natAbs.log2 < 9000) (hl : items.length < 16777216) :
    Ok (eLc mi (gNm i) tYes' (eCallF m [.inl 0, .inl 1] [] (aCons (eVar 0) (aCons (eC (.int b)) aNil))) [i] env st) fun v s => ∃ (l : Nat) (bs : List Int), v = .loc l ∧ s[l]? = some (.lst (ivs bs)) ∧ st1.length ≤ l ∧ bs.length = items.length ∧ (∀ x ∈ bs, 0 ≤ x ∧ x < b) ∧ Deal s d c ∧ Fr d c st1 s := by
  obtain ⟨hd, hc, hdc⟩ := h.lt
  rw [eLc_eq, hmi, R.bind_ok, Ok_bind]
  refine lcL_ok (fun xs acc s => ∃ bs, acc = ivs bs ∧ s[st1.length]? = some (.lst acc) ∧ xs.length + bs.length = items.length ∧ (∀ x ∈ bs, 0 ≤ x ∧ x < b) ∧ Deal s d c ∧ Fr d c st1 s) (fun _ _ _ _ => by simp) (fun acc s ⟨bs, e, q1, q2, q3, q4, q5⟩ => ?h0) (fun x r acc s ⟨bs, e, q1, q2, q3, q4, q5⟩ => ?hs) items [] _ ⟨[], rfl, at_new, by simp, fun x hx => (by cases hx), h.app _, .app _⟩
  case h0 =>
    subst e
    exact ⟨st1.length, bs, rfl, q1, Nat.le_refl _, by simpa using q2, q3, q4, q5⟩
  case hs =>
    subst e
    refine ⟨by rw [ivs_length]; simp only [List.length_cons] at q2; omega, (wipeE env [i]).set i (some x), rfl, ?_⟩
    have e0 : ((wipeE env [i]).set i (some x))[0]? = some (some (.loc d)) := by
      show ((env.set i none).set i (some x))[0]? = _
      rw [List.getElem?_set_ne (by omega), List.getElem?_set_ne (by omega)]
      exact he
    show Ok (.ok true s) _
    rw [Ok_ok, if_pos rfl]
    simp only [eCallF_eq, aCons_eq, eVar_eq, e0, getV_loc, R.bind_ok, eC_eq, aNil_eq]
    refine (hm b s d c q4 hb hb2).imp fun v s2 ⟨z, ev, z1, z2, z3, z4⟩ => ?_
    subst ev
    have q1' := z4.at q1 (by omega) (by omega)
    have hlt : st1.length < s2.length := (List.getElem?_eq_some_iff.mp q1').1
    refine ⟨q1', bs ++ [z], by rw [ivs_append]; rfl, List.getElem?_set_self hlt, by simp only [List.length_cons] at q2; rw [List.length_append]; simp only [List.length_cons, List.length_nil]; omega, fun y hy => ?_, z3.setOther (by omega) (by omega), (q5.trans z4).setNew (Nat.le_refl _)⟩
    rcases List.mem_append.mp hy with w | w
    · exact q3 y w
    · rw [List.mem_singleton.mp w]; exact ⟨z1, z2⟩
noncomputable def octetsB (m : Fx) : Sx := (sRet (eCall (one' oTuple) (aCons (eLc (iRange1 (eVar 1)) (gNm 2) tYes' (eCallF m [.inl 0, .inl 1] [] (aCons (eVar 0) (aCons (eC (.int 256)) aNil))) [2]) aNil)))
theorem iRange1_ok {a : Ex} {env : Env} {st st1 : Sto} {z : Int} {k : Nat} (h : a env st = .ok (.int z) st1) (hz : z = (k : Int)) (hk : k ≤ 16777216) : iRange1 a env st = .ok ((List.range k).map fun (i : Nat) => Val.int (i : Int), []) st1 := by
  unfold iRange1
  rw [h, R.bind_ok]
  show (if -(2 ^ 62) ≤ z ∧ z < 2 ^ 62 then R.ok ((List.range z.toNat).map fun (i : Nat) => Val.int (i : Int), []) st1 else .stuck) = _
  rw [if_pos ⟨by omega, by omega⟩, hz, Int.toNat_natCast]
theorem octets_ok {m : Fx} (hm : AnyOk m) {st : Sto} {d c k : Nat} {z : Int} (hz : z = (k : Int)) (hk : k ≤ 1000) (h : Deal st d c) :
    Ok (runB 3 (octetsB m) [.loc d, .int z] st) fun v s => ∃ bs, v = .tup (ivs bs) ∧ bs.length = k ∧ Oct bs ∧ Deal s d c ∧ Fr d c st s := by
  unfold octetsB
  rw [Ok_run]
  simp only [List.map_cons, List.map_nil, List.length_cons, List.length_nil, List.cons_append, List.nil_append, List.replicate, sRet_eq, OkS_to, eCall_eq, Ok_bind, aCons_eq, aNil_eq]
  refine (lcAny hm (mi := iRange1 (eVar 1)) (items := (List.range k).map fun (i : Nat) => Val.int (i : Int)) (iRange1_ok (st1 := st) (z := z) rfl hz (by omega)) h (by decide) rfl (by decide) (by decide) (by simp; omega)).imp fun v s ⟨l, bs, e, q1, q2, q3, q4, q5, q6⟩ => ?_
  subst e
  have t1 : oTuple (.loc l) s = .ok (.tup (ivs bs)) s := by simp [oTuple, tupOf, lstOf, q1]
  simp only [R.bind_ok, Ok_ok, one', t1, OkS_rt]
  exact ⟨bs, rfl, by simpa using q3, q4, q5, q6⟩
end Sm

/-! The Sim layer, part 19: a deal laid from the script. -/
namespace Sm
open PySem L2
noncomputable def dealB (ini : Ex) (A M C : Int) : Sx :=
  (sSeq (sAsg (eLc (iSeq (eSl (eVar 0) oNoP (oPart (eC (.int 63))))) (gNm 2) tYes' (eCall (one' oAbs) (aCons (eCall (one' oInt1) (aCons (eVar 2) aNil)) aNil)) [2]) (gNm 3))
    (sSeq (sAsg ini (gNm 4))
    (sSeq (sFor (iSeq (eVar 3)) (gNm 2)
    (sAsg (eOp oMod (eCall (one' oInt1) (aCons (eOp oAdd (eOp oAdd (eOp oMul (eVar 4) (eC (.int A))) (eOp oMod (eVar 2) (eC (.int M)))) (eC (.int C))) aNil)) (eC (.int 2147483647))) (gNm 4)))
    (sRet (eLst (aCons (eRev (eLc (iSeq (eVar 3)) (gNm 2) (tVal (eOp oGe (eVar 2) (eOp oPow (eC (.int 10)) (eC (.int 18))))) (eVar 2) [2])) (aCons (eVar 4) aNil)))))))
/-- a list of ints from a list of ints -/
theorem lc_ints {mi : Ix} {g : Gx} {t : Tx} {m : Ex} {vs : List Nat} {env : Env} {st st1 : Sto} {xs : List Int} {gd : List (Nat × Ob)} {p : Int → Bool} {f : Int → Int} (hmi : mi env st = .ok (ivs xs, gd) st1) (hgd : ∀ q ∈ gd, st1[q.1]? = some q.2) (hl : xs.length < 16777216)
    (hs : ∀ x s, ∃ env1, g (.int x) (wipeE env vs) = some env1 ∧ t env1 s = .ok (p x) s ∧ (p x = true → m env1 s = .ok (.int (f x)) s)) : eLc mi g t m vs env st = .ok (.loc st1.length) (st1 ++ [Ob.lst (ivs ((xs.filter p).map f))]) := by
  rw [eLc_eq, hmi, R.bind_ok]
  have key : ∀ (ys acc : List Int), acc.length + ys.length ≤ xs.length → lcL gd g t m (wipeE env vs) st1.length (ivs ys) (st1 ++ [Ob.lst (ivs acc)]) = .ok () (st1 ++ [Ob.lst (ivs (acc ++ (ys.filter p).map f))]) := by
    intro ys
    have hg : ∀ (o : Ob), ∀ q ∈ gd, (st1 ++ [o])[q.1]? = some q.2 := fun o q hq => by
      rw [List.getElem?_append_left (List.getElem?_eq_some_iff.mp (hgd q hq)).1]; exact hgd q hq
    induction ys with
    | nil =>
      intro acc _
      rw [ivs_nil]
      unfold lcL
      rw [if_pos (hg _)]
      simp
    | cons y r ih =>
      intro acc hacc
      obtain ⟨env1, h1, h2, h3⟩ := hs y (st1 ++ [Ob.lst (ivs acc)])
      rw [ivs_cons]
      unfold lcL
      rw [if_pos (hg _), h1]
      simp only [h2, noErR, R.bind_ok]
      cases q : p y with
      | false =>
        rw [if_neg (by simp)]
        have := ih acc (by simp only [List.length_cons] at hacc; omega)
        rw [this, List.filter_cons, q]
        simp
      | true =>
        rw [if_pos rfl, h3 q]
        have e1 : (st1 ++ [Ob.lst (ivs acc)])[st1.length]? = some (.lst (ivs acc)) := at_new
        simp only [R.bind_ok, e1]
        rw [if_pos (by rw [ivs_length]; simp only [List.length_cons] at hacc; omega)]
        have e2 : (st1 ++ [Ob.lst (ivs acc)]).set st1.length (.lst (ivs acc ++ [.int (f y)])) = st1 ++ [Ob.lst (ivs (acc ++ [f y]))] := by
          rw [List.set_append_right _ _ (Nat.le_refl _), ivs_append]
          simp
        have := ih (acc ++ [f y]) (by simp only [List.length_cons] at hacc; rw [List.length_append]; simp only [List.length_cons, List.length_nil]; omega)
        rw [e2, this, List.filter_cons, q]
        simp
  have := key xs [] (by simp)
  rw [ivs_nil] at this
  rw [this]
  simp
theorem iSeq_at {st : Sto} {a : Ex} {env : Env} {l : Nat} {xs : List Val} {st1 : Sto} (h : a env st = .ok (.loc l) st1) (hl : st1[l]? = some (.lst xs)) : iSeq a env st = .ok (xs, [(l, .lst xs)]) st1 := by
  unfold iSeq
  rw [h, R.bind_ok]
  simp only [hl]
theorem mix_loop {st : Sto} {v l : Val} {gd : List (Nat × Ob)} {A M C : Int} {D : Dn} {b0 : Option Val} (hgd : ∀ q ∈ gd, st[q.1]? = some q.2) (hA : 0 ≤ A) (hA2 : A < 4294967296) (hM : 0 < M) (hC : 0 ≤ C) : ∀ (xs : List Int) (mix : Int) (e2 : Option Val), (∀ x ∈ xs, 0 ≤ x) → 0 ≤ mix → mix < 2147483647 →
    (∀ e2 mix, 0 ≤ mix → mix < 2147483647 → D.nx [some v, b0, e2, some l, some (.int mix)] st) →
    OkS (forL gd (gNm 2) (sAsg (eOp oMod (eCall (one' oInt1) (aCons (eOp oAdd (eOp oAdd (eOp oMul (eVar 4) (eC (.int A))) (eOp oMod (eVar 2) (eC (.int M)))) (eC (.int C))) aNil)) (eC (.int 2147483647))) (gNm 4)) (ivs xs) [some v, b0, e2, some l, some (.int mix)] st) D
  | [], mix, e2, _, h1, h2, h => by
    unfold forL
    rw [ivs_nil]
    simp only
    rw [if_pos hgd]
    exact h e2 mix h1 h2
  | x :: r, mix, e2, hx, h1, h2, h => by
    have m1 : oMul (.int mix) (.int A) st = .ok (.int (mix * A)) st := oMul_int (a := 31) (b := 32) (by omega) (by omega) (by decide)
    unfold forL
    rw [ivs_cons]
    simp only
    rw [if_pos hgd]
    have g1 : gNm 2 (.int x) [some v, b0, e2, some l, some (.int mix)] = some [some v, b0, some (.int x), some l, some (.int mix)] := rfl
    have body : (sAsg (eOp oMod (eCall (one' oInt1) (aCons (eOp oAdd (eOp oAdd (eOp oMul (eVar 4) (eC (.int A))) (eOp oMod (eVar 2) (eC (.int M)))) (eC (.int C))) aNil)) (eC (.int 2147483647))) (gNm 4)) [some v, b0, some (.int x), some l, some (.int mix)] st = .nx [some v, b0, some (.int x), some l, some (.int ((mix * A + x % M + C) % 2147483647))] st := by
      simp [m1, oInt_eq, hM, oAdd_int, one', oInt1]
    simp only [g1, onG, body]
    exact mix_loop hgd hA hA2 hM hC r _ _ (fun y hy => hx y (List.mem_cons_of_mem _ hy)) (Int.emod_nonneg _ (by decide)) (Int.emod_lt_of_pos _ (by decide)) h
theorem deal_ok {ini : Ex} {A M C base : Int} {ns : List Int} (hA : 0 ≤ A) (hA2 : A < 4294967296) (hM : 0 < M) (hC : 0 ≤ C) (hini : ∀ e2 e3 st, ∃ v, ini [some (.scr ns), some (.int base), e2, e3, none] st = .ok (.int v) st ∧ 0 ≤ v ∧ v < 2147483647) :
    Ok (runB 5 (dealB ini A M C) [.scr ns, .int base] []) fun v s => ∃ d c, v = .loc d ∧ Deal s d c := by
  unfold dealB
  rw [Ok_run]
  simp only [List.map_cons, List.map_nil, List.length_cons, List.length_nil, List.cons_append, List.nil_append, List.replicate]
  have s0 : eSl (eVar 0) oNoP (oPart (eC (.int 63))) [some (.scr ns), some (.int base), none, none, none] [] = .ok (.loc 0) [Ob.lst (ivs (cutL ns none (some 63)))] := by
    have e : cutL (ns.map Val.int) none (some 63) = ivs (cutL ns none (some 63)) := by unfold cutL ivs; rw [List.map_take, List.map_drop, List.length_map]
    simp [tupOf, lstOf, e]
  have hc63 : (cutL ns none (some 63)).length ≤ 63 := by
    unfold cutL
    have : HT.sIx ns.length ns.length (some ((63 : Nat) : Int)) = min 63 ns.length := HT.sIx_nat _ _ _
    rw [List.length_take, show HT.sIx ns.length ns.length (some 63) = min 63 ns.length from this]
    omega
  have l1 : eLc (iSeq (eSl (eVar 0) oNoP (oPart (eC (.int 63))))) (gNm 2) tYes' (eCall (one' oAbs) (aCons (eCall (one' oInt1) (aCons (eVar 2) aNil)) aNil)) [2] [some (.scr ns), some (.int base), none, none, none] [] =
      .ok (.loc 1) ([Ob.lst (ivs (cutL ns none (some 63)))] ++ [Ob.lst (ivs (((cutL ns none (some 63)).filter fun _ => true).map fun x => if x < 0 then -x else x))]) :=
    lc_ints (st1 := [Ob.lst (ivs (cutL ns none (some 63)))]) (iSeq_at s0 rfl) (fun q hq => by rw [List.mem_singleton.mp hq]; rfl) (by omega) fun x s => ⟨_, rfl, rfl, fun _ => by simp [wipeE, one', oInt1, oAbs]⟩
  have fl : ((cutL ns none (some 63)).filter fun _ => true) = cutL ns none (some 63) := List.filter_eq_self.mpr fun _ _ => rfl
  rw [fl] at l1
  generalize hcs : (cutL ns none (some 63)).map (fun x => if x < 0 then -x else x) = cs at l1
  have hc0 : ∀ x ∈ cs, 0 ≤ x := fun x hx => by
    rw [← hcs] at hx
    obtain ⟨y, _, e⟩ := List.mem_map.mp hx
    subst e
    split <;> omega
  have hcl : cs.length ≤ 63 := by rw [← hcs, List.length_map]; exact hc63
  generalize hst : ([Ob.lst (ivs (cutL ns none (some 63)))] ++ [Ob.lst (ivs cs)] : Sto) = st at l1
  have h1 : st[1]? = some (.lst (ivs cs)) := by rw [← hst]; rfl
  obtain ⟨v0, i1, i2, i3⟩ := hini none (some (.loc 1)) st
  rw [seq_asg, l1, Ok_ok, seq_asg]
  simp only [List.set_cons_succ, List.set_cons_zero]
  rw [i1, Ok_ok, seq_for]
  simp only [List.set_cons_succ, List.set_cons_zero]
  rw [iSeq_at (l := 1) (xs := ivs cs) (st1 := st) rfl h1, Ok_ok]
  refine mix_loop (fun q hq => by rw [List.mem_singleton.mp hq]; exact h1) hA hA2 hM hC cs v0 none hc0 i2 i3 fun e2 mix m1 m2 => ?_
  have l2 : ∀ env : Env, env = [some (.scr ns), some (.int base), e2, some (.loc 1), some (.int mix)] → eLc (iSeq (eVar 3)) (gNm 2) (tVal (eOp oGe (eVar 2) (eOp oPow (eC (.int 10)) (eC (.int 18))))) (eVar 2) [2] env st = .ok (.loc st.length) (st ++ [Ob.lst (ivs ((cs.filter fun x => decide ((10 : Int) ^ (18 : Int).toNat ≤ x)).map fun x => x))]) := by
    intro env he
    subst he
    refine lc_ints (st1 := st) (iSeq_at (l := 1) rfl h1) (fun q hq => by rw [List.mem_singleton.mp hq]; exact h1) (by omega) fun x s => ⟨[some (.scr ns), some (.int base), some (.int x), some (.loc 1), some (.int mix)], rfl, ?_, fun _ => rfl⟩
    simp [oInt_eq]
  generalize hds : ((cs.filter fun x => decide ((10 : Int) ^ (18 : Int).toNat ≤ x)).map fun x => x) = ds at l2
  have hd0 : ∀ x ∈ ds.reverse, 0 ≤ x := fun x hx => by
    rw [← hds] at hx
    simp only [List.mem_reverse, List.map_id'] at hx
    exact hc0 x (List.mem_filter.mp hx).1
  have hdl : ds.reverse.length ≤ 63 := by
    rw [← hds, List.length_reverse, List.length_map]
    exact Nat.le_trans (List.length_filter_le _ _) hcl
  have r1 : lstOf (st ++ [Ob.lst (ivs ds)]) (.loc st.length) = some (ivs ds) := by
    unfold lstOf
    simp only [at_new]
  have r2 : (ivs ds).reverse = ivs ds.reverse := by unfold ivs; rw [List.map_reverse]
  have e1 : eRev (eLc (iSeq (eVar 3)) (gNm 2) (tVal (eOp oGe (eVar 2) (eOp oPow (eC (.int 10)) (eC (.int 18))))) (eVar 2) [2]) [some (.scr ns), some (.int base), e2, some (.loc 1), some (.int mix)] st = .ok (.loc (st.length + 1)) (st ++ [Ob.lst (ivs ds)] ++ [Ob.lst (ivs ds.reverse)]) := by
    rw [eRev_eq, l2 _ rfl, R.bind_ok]
    show (match lstOf (st ++ [Ob.lst (ivs ds)]) (.loc st.length) with | some xs => R.ok (Val.loc (st ++ [Ob.lst (ivs ds)]).length) ((st ++ [Ob.lst (ivs ds)]) ++ [Ob.lst xs.reverse]) | none => R.stuck) = _
    rw [r1]
    simp only [r2]
    rw [List.length_append]
    rfl
  simp only
  rw [OkS_ret, eLst_eq, aCons_eq, e1, R.bind_ok, aCons_eq]
  have e4 : eVar 4 [some (.scr ns), some (.int base), e2, some (.loc 1), some (.int mix)] (st ++ [Ob.lst (ivs ds)] ++ [Ob.lst (ivs ds.reverse)]) = .ok (.int mix) (st ++ [Ob.lst (ivs ds)] ++ [Ob.lst (ivs ds.reverse)]) := rfl
  rw [e4]
  simp only [aNil_eq, R.bind_ok, List.length_cons, List.length_nil]
  rw [if_pos (by decide), Ok_ok]
  refine ⟨_, st.length + 1, rfl, ds.reverse.length, hdl, ⟨mix, at_new, m1, m2⟩, ⟨ds.reverse, ?_, hd0, rfl⟩, by simp⟩
  have hz : st.length + 1 = (st ++ [Ob.lst (ivs ds)]).length := by simp
  rw [List.getElem?_append_left (by simp), hz]
  exact at_new
end Sm

/-! The Sim layer, part 20: data, and what repr shows of it. -/
namespace Sm
open PySem L2
/-- x as data, at most k deep -/
def Pd (k : Nat) (st : Sto) (x : Val) (d : PyData) : Prop := ∀ n, k ≤ n → pd st n x = some d
def PdA (k : Nat) (st : Sto) (xs : List Val) (ds : List PyData) : Prop := ∀ n, k ≤ n → xs.mapM (pd st n) = some ds
theorem Pd.int {st : Sto} (i : Int) : Pd 0 st (.int i) (.int i) := fun n _ => by cases n <;> rfl
theorem Pd.non {st : Sto} : Pd 0 st .non .none := fun n _ => by cases n <;> rfl
theorem Pd.bl {st : Sto} (b : Bool) : Pd 0 st (.bl b) (.bool b) := fun n _ => by cases n <;> rfl
theorem Pd.str {st : Sto} (s : Str) : Pd 0 st (.str s) (.str s) := fun n _ => by cases n <;> rfl
theorem Pd.mono {k j : Nat} {st : Sto} {x : Val} {d : PyData} (h : Pd k st x d) (hk : k ≤ j) : Pd j st x d := fun n hn => h n (Nat.le_trans hk hn)
theorem PdA.mono {k j : Nat} {st : Sto} {x : List Val} {d : List PyData} (h : PdA k st x d) (hk : k ≤ j) : PdA j st x d := fun n hn => h n (Nat.le_trans hk hn)
theorem PdA.nil {k : Nat} {st : Sto} : PdA k st [] [] := fun _ _ => rfl
theorem PdA.cons {k : Nat} {st : Sto} {x : Val} {xs : List Val} {d : PyData} {ds : List PyData} (h : Pd k st x d) (t : PdA k st xs ds) : PdA k st (x :: xs) (d :: ds) := fun n hn => by
  rw [List.mapM_cons, h n hn, t n hn]; rfl
theorem PdA.ivs {k : Nat} {st : Sto} (xs : List Int) : PdA k st (Sm.ivs xs) (xs.map PyData.int) := fun n _ => mapM_pd_ivs st n xs
theorem PdA.append {k : Nat} {st : Sto} {xs ys : List Val} {ds es : List PyData} (h : PdA k st xs ds) (t : PdA k st ys es) : PdA k st (xs ++ ys) (ds ++ es) := fun n hn => by
  rw [List.mapM_append, h n hn, t n hn]; rfl
theorem Pd.tup {k : Nat} {st : Sto} {xs : List Val} {ds : List PyData} (h : PdA k st xs ds) : Pd (k + 1) st (.tup xs) (.tuple ds) := fun n hn => by
  obtain ⟨m, rfl⟩ : ∃ m, n = m + 1 := ⟨n - 1, by omega⟩
  show (xs.mapM (pd st m)).map PyData.tuple = _
  rw [h m (by omega)]; rfl
theorem Pd.kt {k : Nat} {st : Sto} {xs : List Val} {ds : List PyData} (h : PdA k st xs ds) : Pd (k + 1) st (.kt xs) (.tuple ds) := fun n hn => by
  obtain ⟨m, rfl⟩ : ∃ m, n = m + 1 := ⟨n - 1, by omega⟩
  show (xs.mapM (pd st m)).map PyData.tuple = _
  rw [h m (by omega)]; rfl
theorem Pd.lst {k l : Nat} {st : Sto} {xs : List Val} {ds : List PyData} (hl : st[l]? = some (.lst xs)) (h : PdA k st xs ds) : Pd (k + 1) st (.loc l) (.list ds) := fun n hn => by
  obtain ⟨m, rfl⟩ : ∃ m, n = m + 1 := ⟨n - 1, by omega⟩
  show (match st[l]? with | some (.lst xs) => (xs.mapM (pd st m)).map PyData.list | _ => none) = _
  rw [hl]
  show (xs.mapM (pd st m)).map PyData.list = _
  rw [h m (by omega)]; rfl
/-- small data -/
structure SB (n m : Nat) (d : PyData) : Prop where
  s : d.showable = true
  l : d.leavesShort 60 = true
  h : d.hasDict = false
  dp : d.depth ≤ n
  b : d.bulk ≤ m
structure SBs (n m : Nat) (ds : List PyData) : Prop where
  s : PyData.showableAll ds = true
  l : PyData.leavesShortAll 60 ds = true
  h : PyData.hasDictAll ds = false
  dp : PyData.depthAll ds ≤ n
  b : PyData.bulkAll ds ≤ m
theorem SB.mono {n m n' m' : Nat} {d : PyData} (h : SB n m d) (h1 : n ≤ n') (h2 : m ≤ m') : SB n' m' d := ⟨h.s, h.l, h.h, Nat.le_trans h.dp h1, Nat.le_trans h.b h2⟩
theorem SBs.mono {n m n' m' : Nat} {d : List PyData} (h : SBs n m d) (h1 : n ≤ n') (h2 : m ≤ m') : SBs n' m' d := ⟨h.s, h.l, h.h, Nat.le_trans h.dp h1, Nat.le_trans h.b h2⟩
theorem log2_small {n : Nat} (h : n < 10 ^ 50) : n.log2 < 1920 := by
  by_cases hz : n = 0
  · subst hz; decide
  · exact (Nat.log2_lt hz).mpr (Nat.lt_of_lt_of_le h (Nat.le_trans (by decide : 10 ^ 50 ≤ 2 ^ 167) (Nat.pow_le_pow_right (by decide) (by decide))))
theorem SB.int {i : Int} (h0 : 0 ≤ i) (h : i < 10 ^ 50) : SB 1 0 (.int i) := by
  refine ⟨?_, ?_, by simp [PyData.hasDict], by simp [PyData.depth], by simp [PyData.bulk]⟩
  · simp only [PyData.showable]
    exact decide_eq_true (log2_small (by omega))
  · simp only [PyData.leavesShort, PyData.shown]
    exact decide_eq_true (Nat.le_trans (PyProof.Rows.toString_length_le h0 (by decide) h) (by decide))
theorem SB.neg1 : SB 1 0 (.int (-1)) := by
  refine ⟨by decide +kernel, by decide +kernel, by simp [PyData.hasDict], by simp [PyData.depth], by simp [PyData.bulk]⟩
theorem SB.non : SB 1 0 .none := ⟨by simp [PyData.showable], by simp [PyData.leavesShort], by simp [PyData.hasDict], by simp [PyData.depth], by simp [PyData.bulk]⟩
theorem SB.bl (b : Bool) : SB 1 0 (.bool b) := ⟨by simp [PyData.showable], by simp [PyData.leavesShort], by simp [PyData.hasDict], by simp [PyData.depth], by simp [PyData.bulk]⟩
theorem SB.str {s : Str} (h : (PyData.leavesShort 60 (.str s)) = true) (h2 : s.cps.size ≤ 100) : SB 1 100 (.str s) := ⟨by simp [PyData.showable], h, by simp [PyData.hasDict], by simp [PyData.depth], by simp only [PyData.bulk]; exact h2⟩
theorem SBs.nil : SBs 1 0 [] := ⟨by simp [PyData.showableAll], by simp [PyData.leavesShortAll], by simp [PyData.hasDictAll], by simp [PyData.depthAll], by simp [PyData.bulkAll]⟩
theorem SBs.cons {n m n' m' : Nat} {d : PyData} {ds : List PyData} (h : SB n m d) (t : SBs n' m' ds) : SBs (max n n') (m + 1 + m') (d :: ds) := by
  have h1 := h.dp
  have h2 := t.dp
  have h3 := h.b
  have h4 := t.b
  refine ⟨by simp [PyData.showableAll, h.s, t.s], by simp [PyData.leavesShortAll, h.l, t.l], by simp [PyData.hasDictAll, h.h, t.h], ?_, ?_⟩
  · simp only [PyData.depthAll]
    omega
  · simp only [PyData.bulkAll]
    omega
theorem SBs.ivs : ∀ {xs : List Int}, (∀ x ∈ xs, 0 ≤ x ∧ x < 10 ^ 50) → SBs 1 xs.length (xs.map PyData.int)
  | [], _ => .nil
  | x :: xs, h => by
    have := SBs.cons (SB.int (h x List.mem_cons_self).1 (h x List.mem_cons_self).2) (SBs.ivs (xs := xs) fun y hy => h y (List.mem_cons_of_mem _ hy))
    exact this.mono (by simp) (by simp only [List.length_cons]; omega)
theorem SB.tup {n m : Nat} {ds : List PyData} (h : SBs n m ds) : SB (n + 1) m (.tuple ds) := by
  have h1 := h.dp
  refine ⟨by simp [PyData.showable, h.s], by simp [PyData.leavesShort, h.l], by simp [PyData.hasDict, h.h], ?_, by simp only [PyData.bulk]; exact h.b⟩
  simp only [PyData.depth]
  omega
theorem SB.lst {n m : Nat} {ds : List PyData} (h : SBs n m ds) : SB (n + 1) m (.list ds) := by
  have h1 := h.dp
  refine ⟨by simp [PyData.showable, h.s], by simp [PyData.leavesShort, h.l], by simp [PyData.hasDict, h.h], ?_, by simp only [PyData.bulk]; exact h.b⟩
  simp only [PyData.depth]
  omega
theorem SB.fits {n m : Nat} {d : PyData} (h : SB n m d) (hm : m ≤ 200000) : d.shown.length ≤ 16777216 := by
  have := PyData.shown_le_bulk 60 (by decide) d h.l
  have hb := h.b
  omega
theorem repr_ok {k n m : Nat} {st : Sto} {x : Val} {d : PyData} (h : Pd k st x d) (s : SB n m d) (hk : k ≤ 40) (hn : n ≤ 60) (hm : m ≤ 200000) : oRepr x st = .ok (.str d.shown) st := by
  unfold oRepr
  rw [h deep hk]
  have h1 := s.dp
  simp only [s.s, s.h, Bool.not_false, Bool.true_and, Bool.and_true]
  rw [if_pos]
  rw [Bool.and_eq_true, decide_eq_true_eq, decide_eq_true_eq]
  exact ⟨by omega, s.fits hm⟩
theorem oEq_str (neg : Bool) (a b : Str) (st : Sto) : oEq neg (.str a) (.str b) st = .ok (.bl (if neg then !decide (a = b) else decide (a = b))) st := rfl
end Sm

/-! The Sim layer, part 21: Ok of the combinators. -/
namespace Sm
open PySem L2
theorem Ok_callF (m : Fx) (ord : List (Nat ⊕ Nat)) (dvs : List Val) (aa : Ax) (env : Env) (st : Sto) (Q : Val → Sto → Prop) : Ok (eCallF m ord dvs aa env st) Q = Ok (aa env st) fun xs s => Ok (m (arr .non ord xs dvs) s) Q := by rw [eCallF_eq, Ok_bind]
theorem Ok_aCons (a : Ex) (r : Ax) (env : Env) (st : Sto) (Q : List Val → Sto → Prop) : Ok (aCons a r env st) Q = Ok (a env st) fun x s1 => Ok (r env s1) fun xs s2 => Q (x :: xs) s2 := by
  rw [aCons_eq, Ok_bind]
  congr 1
  funext x s
  rw [Ok_bind]
  rfl
theorem Ok_aNil (env : Env) (st : Sto) (Q : List Val → Sto → Prop) : Ok (aNil env st) Q = Q [] st := rfl
theorem Ok_aApp (a b : Ax) (env : Env) (st : Sto) (Q : List Val → Sto → Prop) : Ok (aApp a b env st) Q = Ok (a env st) fun xs s1 => Ok (b env s1) fun ys s2 => Q (xs ++ ys) s2 := by
  rw [aApp_eq, Ok_bind]
  congr 1
  funext x s
  rw [Ok_bind]
  rfl
theorem Ok_op (o : Val → Val → Sto → R Val) (a b : Ex) (env : Env) (st : Sto) (Q : Val → Sto → Prop) : Ok (eOp o a b env st) Q = Ok (a env st) fun x s1 => Ok (b env s1) fun y s2 => Ok (o x y s2) Q := by
  rw [eOp_eq, Ok_bind]
  congr 1
  funext x s
  rw [Ok_bind]
theorem Ok_un (o : Val → Sto → R Val) (a : Ex) (env : Env) (st : Sto) (Q : Val → Sto → Prop) : Ok (eUn o a env st) Q = Ok (a env st) fun x s1 => Ok (o x s1) Q := by rw [eUn_eq, Ok_bind]
theorem Ok_call (o : List Val → Sto → R Val) (a : Ax) (env : Env) (st : Sto) (Q : Val → Sto → Prop) : Ok (eCall o a env st) Q = Ok (a env st) fun x s1 => Ok (o x s1) Q := by rw [eCall_eq, Ok_bind]
theorem Ok_C (v : Val) (env : Env) (st : Sto) (Q : Val → Sto → Prop) : Ok (eC v env st) Q = Q v st := rfl
theorem Ok_tup (a : Ax) (env : Env) (st : Sto) (Q : Val → Sto → Prop) : Ok (eTup a env st) Q = Ok (a env st) fun xs s => xs.length ≤ 16777216 ∧ Q (.tup xs) s := by
  rw [eTup_eq, Ok_bind]
  congr 1
  funext x s
  by_cases h : x.length ≤ 16777216
  · rw [if_pos h]; simp [h]
  · rw [if_neg h]; simp [h]
theorem Ok_lst (a : Ax) (env : Env) (st : Sto) (Q : Val → Sto → Prop) : Ok (eLst a env st) Q = Ok (a env st) fun xs s => xs.length ≤ 16777216 ∧ Q (.loc s.length) (s ++ [Ob.lst xs]) := by
  rw [eLst_eq, Ok_bind]
  congr 1
  funext x s
  by_cases h : x.length ≤ 16777216
  · rw [if_pos h]; simp [h]
  · rw [if_neg h]; simp [h]
theorem Ok_var {i : Nat} {env : Env} {st : Sto} {Q : Val → Sto → Prop} {v : Val} (h : env[i]? = some (some v)) (hv : okV v = true) : Ok (eVar i env st) Q = Q v st := by rw [eVar_eq, h, getV_ok hv]; rfl
theorem Ok_varI (i : Nat) (env : Env) (st : Sto) (Q : Val → Sto → Prop) : Ok (eVar i env st) Q = Ok (getV env[i]? st) Q := by rw [eVar_eq]
theorem Ok_tVal (a : Ex) (env : Env) (st : Sto) (Q : Bool → Sto → Prop) : Ok (tVal a env st) Q = Ok (a env st) fun x s => ∃ b, x = .bl b ∧ Q b s := by
  rw [tVal_eq, Ok_bind]
  congr 1
  funext x s
  cases x <;> simp [ifB]
theorem Ok_if (c : Tx) (a b : Ex) (env : Env) (st : Sto) (Q : Val → Sto → Prop) : Ok (eIf c a b env st) Q = Ok (c env st) fun q s => if q = true then Ok (a env s) Q else Ok (b env s) Q := by
  rw [eIf_eq, Ok_bind]
  congr 1
  funext x s
  cases x <;> rfl
theorem Ok_lm (o : Val → List Val → Sto → R Val) (mo : Ex) (aa : Ax) (env : Env) (st : Sto) (Q : Val → Sto → Prop) : Ok (eLm o mo aa env st) Q = Ok (mo env st) fun x s => isL s x = true ∧ Ok (aa env s) fun xs s2 => Ok (o x xs s2) Q := by
  rw [eLm_eq, Ok_bind]
  congr 1
  funext x s
  by_cases h : isL s x = true
  · rw [if_pos h, Ok_bind]; simp [h]
  · rw [if_neg h]; simp [h]
theorem any_call {m : Fx} (hm : AnyOk m) {b : Int} {st : Sto} {d c : Nat} {Q : Val → Sto → Prop} (h : Deal st d c) (hb : 0 < b) (hb2 : b.natAbs.log2 < 9000) (k : ∀ r s, 0 ≤ r → r < b → Deal s d c → Fr d c st s → Q (.int r) s) : Ok (m [.loc d, .int b] st) Q :=
  (hm b st d c h hb hb2).imp fun v s ⟨r, e, h1, h2, h3, h4⟩ => by subst e; exact k r s h1 h2 h3 h4
end Sm


/-! The mirrors of the defs that this law reaches, and the proofs that each def computes its mirror. Printed by gen.py, emit.py. -/
namespace Lw
open PySem L2 Sm
def top (i : Nat) : Stmt := PySem.Challenge.pw_putinonce_k78_datagrams_and_payloads.main.body.getD i (.Pass ⟨0, 0, 0, 0⟩)
def T_exm : Str → Str → Option Bool := pairs [((("InvalidLetter" : Str), ("InvalidLetter" : Str)), true), ((("InvalidLetter" : Str), ("InvalidOctets" : Str)), false), ((("InvalidOctets" : Str), ("InvalidLetter" : Str)), false), ((("InvalidOctets" : Str), ("InvalidOctets" : Str)), true), ((("InvalidSize" : Str), ("InvalidLetter" : Str)), false), ((("InvalidSize" : Str), ("InvalidOctets" : Str)), false)]
def T_xf : Str → Str → Bool := xfs [(("InvalidLetter" : Str), ("at" : Str))]
def T_isx : Str → Str → Option Bool := pairs [((("InvalidLetter" : Str), ("TunnelError" : Str)), true)]
abbrev dv_need_octets : List Val := [.non]
abbrev du_need_octets : List V := [.non]
/-- what the top has written -/
structure Txt (P : Program) (K : PySem.W.Frag) (mg : Str → Option Value) : Prop where
  n_abs : mg ("abs" : Str) = none
  n_bool : mg ("bool" : Str) = none
  n_enumerate : mg ("enumerate" : Str) = none
  n_int : mg ("int" : Str) = none
  n_isinstance : mg ("isinstance" : Str) = none
  n_len : mg ("len" : Str) = none
  n_list : mg ("list" : Str) = none
  n_range : mg ("range" : Str) = none
  n_repr : mg ("repr" : Str) = none
  n_tuple : mg ("tuple" : Str) = none
  g_ANSWER : ∃ t, mg ("ANSWER" : Str) = some (.int 2 t)
  g_ANSWER_PAYLOAD : ∃ t, mg ("ANSWER_PAYLOAD" : Str) = some (.int 13 t)
  g_COUNTERS : ∃ t, mg ("COUNTERS" : Str) = some (.int 9223372036854775808 t)
  g_FIRST : ∃ t, mg ("FIRST" : Str) = some (.int 1 t)
  g_FIRST_PAYLOAD : ∃ t, mg ("FIRST_PAYLOAD" : Str) = some (.int 21 t)
  g_HEADS : GTup K mg ("HEADS" : Str) [.int 0, .int 1, .int 5, .int 13]
  g_LABEL : ∃ t, mg ("LABEL" : Str) = some (.int 4611686018427387904 t)
  g_NO_NAME : GTup K mg ("NO_NAME" : Str) [.int 0, .int 0, .int 0, .int 0, .int 0, .int 0, .int 0, .int 0, .int 2]
  g_SEALED : ∃ t, mg ("SEALED" : Str) = some (.int 3 t)
  d_first_datagram : Df K mg ("first_datagram" : Str) (top 31) []
  d_octets_of : Df K mg ("octets_of" : Str) (top 13) []
  d_answer_datagram : Df K mg ("answer_datagram" : Str) (top 32) []
  d_sealed_head : Df K mg ("sealed_head" : Str) (top 33) []
  d_sealed_datagram : Df K mg ("sealed_datagram" : Str) (top 34) []
  d_is_integer : Df K mg ("is_integer" : Str) (top 6) []
  d_is_below : Df K mg ("is_below" : Str) (top 7) []
  d_wrong_place : Df K mg ("wrong_place" : Str) (top 9) []
  d_is_octets : Df K mg ("is_octets" : Str) (top 10) []
  d_number_of : Df K mg ("number_of" : Str) (top 12) []
  d_is_counter : Df K mg ("is_counter" : Str) (top 22) []
  d_read_datagram : Df K mg ("read_datagram" : Str) (top 35) []
  d__law_deal : Df K mg ("_law_deal" : Str) (top 43) []
  d__law_any : Df K mg ("_law_any" : Str) (top 44) []
  d__law_of : Df K mg ("_law_of" : Str) (top 45) []
  d__law_octets : Df K mg ("_law_octets" : Str) (top 46) []
  d__law_low : Df K mg ("_law_low" : Str) (top 47) []
  d__law_value : Df K mg ("_law_value" : Str) (top 50) []
  d__law_number : Df K mg ("_law_number" : Str) (top 49) []
  d__law_is_octets : Df K mg ("_law_is_octets" : Str) (top 51) []
  d__law_read : Df K mg ("_law_read" : Str) (top 52) []
  d__law_told : Df K mg ("_law_told" : Str) (top 53) []
  d_big_octets_of : Df K mg ("big_octets_of" : Str) (top 15) []
  d_stamp_octets : Df K mg ("stamp_octets" : Str) (top 18) []
  d_said_octets : Df K mg ("said_octets" : Str) (top 36) []
  d_first_payload : Df K mg ("first_payload" : Str) (top 38) []
  d_need_octets : Df K mg ("need_octets" : Str) (top 11) du_need_octets
  d_big_number_of : Df K mg ("big_number_of" : Str) (top 14) []
  d_read_stamp : Df K mg ("read_stamp" : Str) (top 19) []
  d_read_said : Df K mg ("read_said" : Str) (top 37) []
  d_read_first_payload : Df K mg ("read_first_payload" : Str) (top 39) []
  d_answer_payload : Df K mg ("answer_payload" : Str) (top 40) []
  d_read_answer_payload : Df K mg ("read_answer_payload" : Str) (top 41) []
  d__law_high : Df K mg ("_law_high" : Str) (top 48) []
  d__law_name : Df K mg ("_law_name" : Str) (top 54) []
  d__law_said : Df K mg ("_law_said" : Str) (top 55) []
  d__law_told_name : Df K mg ("_law_told_name" : Str) (top 56) []
  d__law_two : Df K mg ("_law_two" : Str) (top 58) []
  d__law_payloads : Df K mg ("_law_payloads" : Str) (top 57) []
  d_law : Df K mg ("law" : Str) (top 59) []
  x_InvalidLetter : XcOk P K mg ("InvalidLetter" : Str) ("at" : Str)
  x_InvalidOctets : XcOk P K mg ("InvalidOctets" : Str) ("at" : Str)
  x_InvalidSize : XcOk P K mg ("InvalidSize" : Str) ("word" : Str)
  c_InvalidLetter : ∃ D, mg ("InvalidLetter" : Str) = some (.ref D)
  c_InvalidOctets : ∃ D, mg ("InvalidOctets" : Str) = some (.ref D)
  c_TunnelError : ∃ D, mg ("TunnelError" : Str) = some (.ref D)
  exm : ExmOk K mg T_exm
  xf : XfOk K mg T_xf
  isx : IsxOk K mg T_isx
section
variable {P : Program} {w : World} {K : PySem.W.Frag} {mg : Str → Option Value} {base : Heap}
/-! ### first_datagram -/
abbrev N_first_datagram : List Str := ["letter"]
theorem nd_first_datagram : N_first_datagram.Nodup := by decide +kernel
noncomputable def b_first_datagram : Sx :=
  (sRet (eOp oAdd (eTup (aCons (eC (.int 1)) aNil)) (eVar 0)))
noncomputable def m_first_datagram : Fx := runB 1 b_first_datagram
theorem sc_first_datagram : FnScope N_first_datagram ["letter"] (defScope (top 31)) := ⟨rfl, rfl, rfl, nd_first_datagram, rfl, by decide +kernel, by decide +kernel⟩
theorem sm_first_datagram (T : Txt P K mg) : SimSs P w K mg base { N := N_first_datagram, sc := defScope (top 31), k := 0 } (defBody (top 31)) b_first_datagram :=
  (simSs_one (simS_ret (simE_op ok_add (simE_tup (simA_cons (simE_gint rfl T.g_FIRST) simA_nil (fun _ => rfl))) (simE_var rfl (.inl rfl)))))
theorem ok_first_datagram (T : Txt P K mg) : Cal P w K mg base 1 ("first_datagram" : Str) [("letter" : Str)] m_first_datagram [⟨1, [], [.inl 0], []⟩, ⟨0, [("letter" : Str)], [.inl 0], []⟩] := cal0 T.d_first_datagram sc_first_datagram (sm_first_datagram T) (ways_cons ⟨rfl, rfl, fun kV doc pm an cdv ct us ws hu hw => by match us, ws, hu, hw with | [u0], [], _, _ => rfl⟩ (ways_cons ⟨rfl, rfl, fun kV doc pm an cdv ct us ws hu hw => by match us, ws, hu, hw with | [], [w0], _, _ => rfl⟩ ways_nil))
/-! ### octets_of -/
abbrev N_octets_of : List Str := ["number", "size", "found", "rest", "turn"]
theorem nd_octets_of : N_octets_of.Nodup := by decide +kernel
noncomputable def b_octets_of : Sx :=
  (sSeq (sPar 2 3 (aCons (eLst aNil) (aCons (eVar 0) aNil)))
    (sSeq (sFor (iRange1 (eVar 1)) (gNm 4)
    (sSeq (sDrop (eLm mAppend (eVar 2) (aCons (eOp oAnd (eVar 3) (eC (.int 255))) aNil)))
    (sAug 3 oShr (eC (.int 8)))))
    (sSeq (sIf (tVal (eOp oGt (eVar 3) (eC (.int 0)))) (sRaise ("InvalidSize" : Str) ("word" : Str) (eC (.str ("number" : Str)))) sNil)
    (sRet (eCall (one' oTuple) (aCons (eVar 2) aNil))))))
noncomputable def m_octets_of : Fx := runB 5 b_octets_of
theorem sc_octets_of : FnScope N_octets_of ["number", "size"] (defScope (top 13)) := ⟨rfl, rfl, rfl, nd_octets_of, rfl, by decide +kernel, by decide +kernel⟩
theorem sm_octets_of (T : Txt P K mg) : SimSs P w K mg base { N := N_octets_of, sc := defScope (top 13), k := 0 } (defBody (top 13)) b_octets_of :=
  (simSs_cons (simS_par rfl nd_octets_of rfl rfl (by decide) rfl rfl (simA_cons (simE_lst simA_nil) (simA_cons (simE_var rfl (.inl rfl)) simA_nil (fun _ => rfl)) (fun _ => rfl)) (fun env h => by cases env; cases h; rfl) (fun _ => rfl))
    (simSs_cons (simS_for rfl (simI_range1 rfl T.n_range (simE_var rfl (.inl rfl)) (fun _ => rfl)) (simG_name nd_octets_of rfl (.inl rfl) (.inl rfl))
    (simSs_cons (simS_expr (simE_lm ok_append PySem.F.slot_list_append PySem.F.type_list_append (simE_var rfl (.inl rfl)) (simA_cons (simE_op ok_and (simE_var rfl (.inl rfl)) simE_int) simA_nil (fun _ => rfl)) (fun _ => rfl) (fun _ => rfl) rfl (fun _ => rfl) (fun _ => rfl)) (fun _ => rfl))
    (simSs_one (simS_aug ip_ok_shr nd_octets_of rfl (.inl rfl) (.inl rfl) simE_int))) (fun _ _ => rfl))
    (simSs_cons (simS_if (simT_cmp ok_gtI (simE_var rfl (.inl rfl)) simE_int rfl) (simSs_one (simS_raiseX rfl T.x_InvalidSize rfl simE_str (fun _ => rfl))) simSs_nil)
    (simSs_one (simS_ret (simE_callTy (ok_tuple) rfl T.n_tuple rfl (simA_cons (simE_var rfl (.inl rfl)) simA_nil (fun _ => rfl)) (fun _ => rfl) (fun _ => rfl)))))))
theorem ok_octets_of (T : Txt P K mg) : Cal P w K mg base 1 ("octets_of" : Str) [("number" : Str), ("size" : Str)] m_octets_of [⟨2, [], [.inl 0, .inl 1], []⟩] := cal0 T.d_octets_of sc_octets_of (sm_octets_of T) (ways_cons ⟨rfl, rfl, fun kV doc pm an cdv ct us ws hu hw => by match us, ws, hu, hw with | [u0, u1], [], _, _ => rfl⟩ ways_nil)
/-! ### answer_datagram -/
abbrev N_answer_datagram : List Str := ["number", "letter"]
theorem nd_answer_datagram : N_answer_datagram.Nodup := by decide +kernel
noncomputable def b_answer_datagram : Sx :=
  (sRet (eOp oAdd (eOp oAdd (eTup (aCons (eC (.int 2)) aNil)) (eCallF m_octets_of [.inl 0, .inl 1] [] (aCons (eVar 0) (aCons (eC (.int 4)) aNil)))) (eVar 1)))
noncomputable def m_answer_datagram : Fx := runB 2 b_answer_datagram
theorem sc_answer_datagram : FnScope N_answer_datagram ["number", "letter"] (defScope (top 32)) := ⟨rfl, rfl, rfl, nd_answer_datagram, rfl, by decide +kernel, by decide +kernel⟩
theorem sm_answer_datagram (T : Txt P K mg) : SimSs P w K mg base { N := N_answer_datagram, sc := defScope (top 32), k := 1 } (defBody (top 32)) b_answer_datagram :=
  (simSs_one (simS_ret (simE_op ok_add (simE_op ok_add (simE_tup (simA_cons (simE_gint rfl T.g_ANSWER) simA_nil (fun _ => rfl))) (simE_cal (q := ⟨2, [], [.inl 0, .inl 1], []⟩) rfl (ok_octets_of T) (.head _) (by decide) rfl (simC_pos (simA_cons (simE_var rfl (.inl rfl)) (simA_cons simE_int simA_nil (fun _ => rfl)) (fun _ => rfl)) (aLen_cons (aLen_cons aLen_nil)) (fun _ => rfl) (fun _ _ => rfl)))) (simE_var rfl (.inl rfl)))))
theorem ok_answer_datagram (T : Txt P K mg) : Cal P w K mg base 2 ("answer_datagram" : Str) [("number" : Str), ("letter" : Str)] m_answer_datagram [⟨2, [], [.inl 0, .inl 1], []⟩, ⟨0, [("letter" : Str), ("number" : Str)], [.inl 1, .inl 0], []⟩] := cal0 T.d_answer_datagram sc_answer_datagram (sm_answer_datagram T) (ways_cons ⟨rfl, rfl, fun kV doc pm an cdv ct us ws hu hw => by match us, ws, hu, hw with | [u0, u1], [], _, _ => rfl⟩ (ways_cons ⟨rfl, rfl, fun kV doc pm an cdv ct us ws hu hw => by match us, ws, hu, hw with | [], [w0, w1], _, _ => rfl⟩ ways_nil))
/-! ### sealed_head -/
abbrev N_sealed_head : List Str := ["number", "counter"]
theorem nd_sealed_head : N_sealed_head.Nodup := by decide +kernel
noncomputable def b_sealed_head : Sx :=
  (sRet (eOp oAdd (eOp oAdd (eTup (aCons (eC (.int 3)) aNil)) (eCallF m_octets_of [.inl 0, .inl 1] [] (aCons (eVar 0) (aCons (eC (.int 4)) aNil)))) (eCallF m_octets_of [.inl 0, .inl 1] [] (aCons (eVar 1) (aCons (eC (.int 8)) aNil)))))
noncomputable def m_sealed_head : Fx := runB 2 b_sealed_head
theorem sc_sealed_head : FnScope N_sealed_head ["number", "counter"] (defScope (top 33)) := ⟨rfl, rfl, rfl, nd_sealed_head, rfl, by decide +kernel, by decide +kernel⟩
theorem sm_sealed_head (T : Txt P K mg) : SimSs P w K mg base { N := N_sealed_head, sc := defScope (top 33), k := 1 } (defBody (top 33)) b_sealed_head :=
  (simSs_one (simS_ret (simE_op ok_add (simE_op ok_add (simE_tup (simA_cons (simE_gint rfl T.g_SEALED) simA_nil (fun _ => rfl))) (simE_cal (q := ⟨2, [], [.inl 0, .inl 1], []⟩) rfl (ok_octets_of T) (.head _) (by decide) rfl (simC_pos (simA_cons (simE_var rfl (.inl rfl)) (simA_cons simE_int simA_nil (fun _ => rfl)) (fun _ => rfl)) (aLen_cons (aLen_cons aLen_nil)) (fun _ => rfl) (fun _ _ => rfl)))) (simE_cal (q := ⟨2, [], [.inl 0, .inl 1], []⟩) rfl (ok_octets_of T) (.head _) (by decide) rfl (simC_pos (simA_cons (simE_var rfl (.inl rfl)) (simA_cons simE_int simA_nil (fun _ => rfl)) (fun _ => rfl)) (aLen_cons (aLen_cons aLen_nil)) (fun _ => rfl) (fun _ _ => rfl))))))
theorem ok_sealed_head (T : Txt P K mg) : Cal P w K mg base 2 ("sealed_head" : Str) [("number" : Str), ("counter" : Str)] m_sealed_head [⟨2, [], [.inl 0, .inl 1], []⟩, ⟨0, [("counter" : Str), ("number" : Str)], [.inl 1, .inl 0], []⟩] := cal0 T.d_sealed_head sc_sealed_head (sm_sealed_head T) (ways_cons ⟨rfl, rfl, fun kV doc pm an cdv ct us ws hu hw => by match us, ws, hu, hw with | [u0, u1], [], _, _ => rfl⟩ (ways_cons ⟨rfl, rfl, fun kV doc pm an cdv ct us ws hu hw => by match us, ws, hu, hw with | [], [w0, w1], _, _ => rfl⟩ ways_nil))
/-! ### sealed_datagram -/
abbrev N_sealed_datagram : List Str := ["number", "counter", "sealed"]
theorem nd_sealed_datagram : N_sealed_datagram.Nodup := by decide +kernel
noncomputable def b_sealed_datagram : Sx :=
  (sRet (eOp oAdd (eCallF m_sealed_head [.inl 0, .inl 1] [] (aCons (eVar 0) (aCons (eVar 1) aNil))) (eVar 2)))
noncomputable def m_sealed_datagram : Fx := runB 3 b_sealed_datagram
theorem sc_sealed_datagram : FnScope N_sealed_datagram ["number", "counter", "sealed"] (defScope (top 34)) := ⟨rfl, rfl, rfl, nd_sealed_datagram, rfl, by decide +kernel, by decide +kernel⟩
theorem sm_sealed_datagram (T : Txt P K mg) : SimSs P w K mg base { N := N_sealed_datagram, sc := defScope (top 34), k := 2 } (defBody (top 34)) b_sealed_datagram :=
  (simSs_one (simS_ret (simE_op ok_add (simE_cal (q := ⟨2, [], [.inl 0, .inl 1], []⟩) rfl (ok_sealed_head T) (.head _) (by decide) rfl (simC_pos (simA_cons (simE_var rfl (.inl rfl)) (simA_cons (simE_var rfl (.inl rfl)) simA_nil (fun _ => rfl)) (fun _ => rfl)) (aLen_cons (aLen_cons aLen_nil)) (fun _ => rfl) (fun _ _ => rfl))) (simE_var rfl (.inl rfl)))))
theorem ok_sealed_datagram (T : Txt P K mg) : Cal P w K mg base 3 ("sealed_datagram" : Str) [("number" : Str), ("counter" : Str), ("sealed" : Str)] m_sealed_datagram [⟨0, [("sealed" : Str), ("counter" : Str), ("number" : Str)], [.inl 2, .inl 1, .inl 0], []⟩] := cal0 T.d_sealed_datagram sc_sealed_datagram (sm_sealed_datagram T) (ways_cons ⟨rfl, rfl, fun kV doc pm an cdv ct us ws hu hw => by match us, ws, hu, hw with | [], [w0, w1, w2], _, _ => rfl⟩ ways_nil)
/-! ### is_integer -/
abbrev N_is_integer : List Str := ["value"]
theorem nd_is_integer : N_is_integer.Nodup := by decide +kernel
noncomputable def b_is_integer : Sx :=
  (sRet (eAnd (eCall (two' oIsi) (aCons (eVar 0) (aCons (eC (.ty "int")) aNil))) (eNot (eCall (two' oIsi) (aCons (eVar 0) (aCons (eC (.ty "bool")) aNil))))))
noncomputable def m_is_integer : Fx := runB 1 b_is_integer
theorem sc_is_integer : FnScope N_is_integer ["value"] (defScope (top 6)) := ⟨rfl, rfl, rfl, nd_is_integer, rfl, by decide +kernel, by decide +kernel⟩
theorem sm_is_integer (T : Txt P K mg) : SimSs P w K mg base { N := N_is_integer, sc := defScope (top 6), k := 0 } (defBody (top 6)) b_is_integer :=
  (simSs_one (simS_ret (simE_and (simE_callB (ok_isi) rfl T.n_isinstance rfl (simA_cons (simE_var rfl (.inl rfl)) (simA_cons (simE_ty rfl T.n_int rfl) simA_nil (fun _ => rfl)) (fun _ => rfl)) (fun _ => rfl) (fun _ => rfl)) (simE_one (simE_not (simE_callB (ok_isi) rfl T.n_isinstance rfl (simA_cons (simE_var rfl (.inl rfl)) (simA_cons (simE_ty rfl T.n_bool rfl) simA_nil (fun _ => rfl)) (fun _ => rfl)) (fun _ => rfl) (fun _ => rfl)))))))
theorem ok_is_integer (T : Txt P K mg) : Cal P w K mg base 1 ("is_integer" : Str) [("value" : Str)] m_is_integer [⟨1, [], [.inl 0], []⟩] := cal0 T.d_is_integer sc_is_integer (sm_is_integer T) (ways_cons ⟨rfl, rfl, fun kV doc pm an cdv ct us ws hu hw => by match us, ws, hu, hw with | [u0], [], _, _ => rfl⟩ ways_nil)
/-! ### is_below -/
abbrev N_is_below : List Str := ["value", "bound"]
theorem nd_is_below : N_is_below.Nodup := by decide +kernel
noncomputable def b_is_below : Sx :=
  (sRet (eAnd (eCallF m_is_integer [.inl 0] [] (aCons (eVar 0) aNil)) (eChain oLe oLt (eC (.int 0)) (eVar 0) (eVar 1))))
noncomputable def m_is_below : Fx := runB 2 b_is_below
theorem sc_is_below : FnScope N_is_below ["value", "bound"] (defScope (top 7)) := ⟨rfl, rfl, rfl, nd_is_below, rfl, by decide +kernel, by decide +kernel⟩
theorem sm_is_below (T : Txt P K mg) : SimSs P w K mg base { N := N_is_below, sc := defScope (top 7), k := 1 } (defBody (top 7)) b_is_below :=
  (simSs_one (simS_ret (simE_and (simE_cal (q := ⟨1, [], [.inl 0], []⟩) rfl (ok_is_integer T) (.head _) (by decide) rfl (simC_pos (simA_cons (simE_var rfl (.inl rfl)) simA_nil (fun _ => rfl)) (aLen_cons aLen_nil) (fun _ => rfl) (fun _ _ => rfl))) (simE_one (simE_chain ok_leI ok_ltI simE_int (simE_var rfl (.inl rfl)) (simE_var rfl (.inl rfl)) rfl)))))
theorem ok_is_below (T : Txt P K mg) : Cal P w K mg base 2 ("is_below" : Str) [("value" : Str), ("bound" : Str)] m_is_below [⟨2, [], [.inl 0, .inl 1], []⟩] := cal0 T.d_is_below sc_is_below (sm_is_below T) (ways_cons ⟨rfl, rfl, fun kV doc pm an cdv ct us ws hu hw => by match us, ws, hu, hw with | [u0, u1], [], _, _ => rfl⟩ ways_nil)
/-! ### wrong_place -/
abbrev N_wrong_place : List Str := ["value", "size", "at", "thing"]
theorem nd_wrong_place : N_wrong_place.Nodup := by decide +kernel
noncomputable def b_wrong_place : Sx :=
  (sSeq (sFor (iEnum' (eVar 0)) (gTup' 2 (gCons' (gNm 2) (gCons' (gNm 3) gNil')))
    (sIf (tOr' (tNot' (tVal (eCallF m_is_below [.inl 0, .inl 1] [] (aCons (eVar 3) (aCons (eC (.int 256)) aNil))))) (tVal (eOp (oEq false) (eVar 2) (eVar 1)))) (sRet (eVar 2)) sNil))
    (sRet (eIf (tAnd' (tVal (eOp (oIsN true) (eVar 1) (eC .non))) (tVal (eOp oLt (eCall (one' oLen) (aCons (eVar 0) aNil)) (eVar 1)))) (eCall (one' oLen) (aCons (eVar 0) aNil)) (eC .non))))
noncomputable def m_wrong_place : Fx := runB 4 b_wrong_place
theorem sc_wrong_place : FnScope N_wrong_place ["value", "size"] (defScope (top 9)) := ⟨rfl, rfl, rfl, nd_wrong_place, rfl, by decide +kernel, by decide +kernel⟩
theorem sm_wrong_place (T : Txt P K mg) : SimSs P w K mg base { N := N_wrong_place, sc := defScope (top 9), k := 2 } (defBody (top 9)) b_wrong_place :=
  (simSs_cons (simS_for rfl (simI_enum rfl T.n_enumerate (simE_var rfl (.inl rfl)) (fun _ => rfl)) (simG_tup rfl (simGs_cons (simG_name nd_wrong_place rfl (.inl rfl) (.inl rfl)) (simGs_cons (simG_name nd_wrong_place rfl (.inl rfl) (.inl rfl)) simGs_nil (fun _ => rfl)) (fun _ => rfl)) (fun _ => rfl) (fun _ => rfl))
    (simSs_one (simS_if (simT_W (simW_or (simT_not (simT_val (simE_cal (q := ⟨2, [], [.inl 0, .inl 1], []⟩) rfl (ok_is_below T) (.head _) (by decide) rfl (simC_pos (simA_cons (simE_var rfl (.inl rfl)) (simA_cons simE_int simA_nil (fun _ => rfl)) (fun _ => rfl)) (aLen_cons (aLen_cons aLen_nil)) (fun _ => rfl) (fun _ _ => rfl))) (fun _ _ => rfl))) (simW_or1 (simT_cmp (ok_eq rfl) (simE_var rfl (.inl rfl)) (simE_var rfl (.inl rfl)) rfl)))) (simSs_one (simS_ret (simE_var rfl (.inl rfl)))) simSs_nil)) (fun _ _ => rfl))
    (simSs_one (simS_ret (simE_if (simT_W (simW_and (simT_cmp ok_isnot (simE_var rfl (.inl rfl)) simE_non rfl) (simW_and1 (simT_cmp ok_ltI (simE_callB (ok_len) rfl T.n_len rfl (simA_cons (simE_var rfl (.inl rfl)) simA_nil (fun _ => rfl)) (fun _ => rfl) (fun _ => rfl)) (simE_var rfl (.inl rfl)) rfl)))) (simE_callB (ok_len) rfl T.n_len rfl (simA_cons (simE_var rfl (.inl rfl)) simA_nil (fun _ => rfl)) (fun _ => rfl) (fun _ => rfl)) simE_non))))
theorem ok_wrong_place (T : Txt P K mg) : Cal P w K mg base 3 ("wrong_place" : Str) [("value" : Str), ("size" : Str)] m_wrong_place [⟨2, [], [.inl 0, .inl 1], []⟩] := cal0 T.d_wrong_place sc_wrong_place (sm_wrong_place T) (ways_cons ⟨rfl, rfl, fun kV doc pm an cdv ct us ws hu hw => by match us, ws, hu, hw with | [u0, u1], [], _, _ => rfl⟩ ways_nil)
/-! ### is_octets -/
abbrev N_is_octets : List Str := ["value"]
theorem nd_is_octets : N_is_octets.Nodup := by decide +kernel
noncomputable def b_is_octets : Sx :=
  (sRet (eAnd (eCall (two' oIsi) (aCons (eVar 0) (aCons (eC (.ty "tuple")) aNil))) (eOp (oIsN false) (eCallF m_wrong_place [.inl 0, .inl 1] [] (aCons (eVar 0) (aCons (eC .non) aNil))) (eC .non))))
noncomputable def m_is_octets : Fx := runB 1 b_is_octets
theorem sc_is_octets : FnScope N_is_octets ["value"] (defScope (top 10)) := ⟨rfl, rfl, rfl, nd_is_octets, rfl, by decide +kernel, by decide +kernel⟩
theorem sm_is_octets (T : Txt P K mg) : SimSs P w K mg base { N := N_is_octets, sc := defScope (top 10), k := 3 } (defBody (top 10)) b_is_octets :=
  (simSs_one (simS_ret (simE_and (simE_callB (ok_isi) rfl T.n_isinstance rfl (simA_cons (simE_var rfl (.inl rfl)) (simA_cons (simE_ty rfl T.n_tuple rfl) simA_nil (fun _ => rfl)) (fun _ => rfl)) (fun _ => rfl) (fun _ => rfl)) (simE_one (simE_cmp ok_is (simE_cal (q := ⟨2, [], [.inl 0, .inl 1], []⟩) rfl (ok_wrong_place T) (.head _) (by decide) rfl (simC_pos (simA_cons (simE_var rfl (.inl rfl)) (simA_cons simE_non simA_nil (fun _ => rfl)) (fun _ => rfl)) (aLen_cons (aLen_cons aLen_nil)) (fun _ => rfl) (fun _ _ => rfl))) simE_non rfl)))))
theorem ok_is_octets (T : Txt P K mg) : Cal P w K mg base 4 ("is_octets" : Str) [("value" : Str)] m_is_octets [⟨1, [], [.inl 0], []⟩] := cal0 T.d_is_octets sc_is_octets (sm_is_octets T) (ways_cons ⟨rfl, rfl, fun kV doc pm an cdv ct us ws hu hw => by match us, ws, hu, hw with | [u0], [], _, _ => rfl⟩ ways_nil)
/-! ### number_of -/
abbrev N_number_of : List Str := ["octets", "total", "octet"]
theorem nd_number_of : N_number_of.Nodup := by decide +kernel
noncomputable def b_number_of : Sx :=
  (sSeq (sAsg (eC (.int 0)) (gNm 1))
    (sSeq (sFor (iSeq (eRev (eVar 0))) (gNm 2)
    (sAsg (eOp oAdd (eOp oMul (eC (.int 256)) (eVar 1)) (eVar 2)) (gNm 1)))
    (sRet (eVar 1))))
noncomputable def m_number_of : Fx := runB 3 b_number_of
theorem sc_number_of : FnScope N_number_of ["octets"] (defScope (top 12)) := ⟨rfl, rfl, rfl, nd_number_of, rfl, by decide +kernel, by decide +kernel⟩
theorem sm_number_of (T : Txt P K mg) : SimSs P w K mg base { N := N_number_of, sc := defScope (top 12), k := 0 } (defBody (top 12)) b_number_of :=
  (simSs_cons (simS_set nd_number_of rfl (.inl rfl) (.inl rfl) simE_int (fun _ => rfl))
    (simSs_cons (simS_for rfl (simI_seq (simE_rev (simE_var rfl (.inl rfl)))) (simG_name nd_number_of rfl (.inl rfl) (.inl rfl))
    (simSs_one (simS_set nd_number_of rfl (.inl rfl) (.inl rfl) (simE_op ok_add (simE_op ok_mul simE_int (simE_var rfl (.inl rfl))) (simE_var rfl (.inl rfl))) (fun _ => rfl))) (fun _ _ => rfl))
    (simSs_one (simS_ret (simE_var rfl (.inl rfl))))))
theorem ok_number_of (T : Txt P K mg) : Cal P w K mg base 1 ("number_of" : Str) [("octets" : Str)] m_number_of [⟨1, [], [.inl 0], []⟩] := cal0 T.d_number_of sc_number_of (sm_number_of T) (ways_cons ⟨rfl, rfl, fun kV doc pm an cdv ct us ws hu hw => by match us, ws, hu, hw with | [u0], [], _, _ => rfl⟩ ways_nil)
/-! ### is_counter -/
abbrev N_is_counter : List Str := ["value"]
theorem nd_is_counter : N_is_counter.Nodup := by decide +kernel
noncomputable def b_is_counter : Sx :=
  (sRet (eAnd (eCallF m_is_integer [.inl 0] [] (aCons (eVar 0) aNil)) (eChain oLe oLt (eC (.int 0)) (eVar 0) (eC (.int 9223372036854775808)))))
noncomputable def m_is_counter : Fx := runB 1 b_is_counter
theorem sc_is_counter : FnScope N_is_counter ["value"] (defScope (top 22)) := ⟨rfl, rfl, rfl, nd_is_counter, rfl, by decide +kernel, by decide +kernel⟩
theorem sm_is_counter (T : Txt P K mg) : SimSs P w K mg base { N := N_is_counter, sc := defScope (top 22), k := 1 } (defBody (top 22)) b_is_counter :=
  (simSs_one (simS_ret (simE_and (simE_cal (q := ⟨1, [], [.inl 0], []⟩) rfl (ok_is_integer T) (.head _) (by decide) rfl (simC_pos (simA_cons (simE_var rfl (.inl rfl)) simA_nil (fun _ => rfl)) (aLen_cons aLen_nil) (fun _ => rfl) (fun _ _ => rfl))) (simE_one (simE_chain ok_leI ok_ltI simE_int (simE_var rfl (.inl rfl)) (simE_gint rfl T.g_COUNTERS) rfl)))))
theorem ok_is_counter (T : Txt P K mg) : Cal P w K mg base 2 ("is_counter" : Str) [("value" : Str)] m_is_counter [⟨1, [], [.inl 0], []⟩] := cal0 T.d_is_counter sc_is_counter (sm_is_counter T) (ways_cons ⟨rfl, rfl, fun kV doc pm an cdv ct us ws hu hw => by match us, ws, hu, hw with | [u0], [], _, _ => rfl⟩ ways_nil)
/-! ### read_datagram -/
abbrev N_read_datagram : List Str := ["value", "counter"]
theorem nd_read_datagram : N_read_datagram.Nodup := by decide +kernel
noncomputable def b_read_datagram : Sx :=
  (sSeq (sIf (tNot' (tVal (eCallF m_is_octets [.inl 0] [] (aCons (eVar 0) aNil)))) (sRaise ("InvalidLetter" : Str) ("at" : Str) (eUn oNeg (eC (.int 1)))) sNil)
    (sSeq (sIf (tOr' (tVal (eOp (oEq false) (eCall (one' oLen) (aCons (eVar 0) aNil)) (eC (.int 0)))) (tNot' (tVal (eChain oLe oLe (eC (.int 1)) (eOp oIx (eVar 0) (eC (.int 0))) (eC (.int 3)))))) (sRaise ("InvalidLetter" : Str) ("at" : Str) (eC (.int 0))) sNil)
    (sSeq (sIf (tVal (eOp oLt (eCall (one' oLen) (aCons (eVar 0) aNil)) (eOp oIx (eC (.kt [.int 0, .int 1, .int 5, .int 13])) (eOp oIx (eVar 0) (eC (.int 0)))))) (sRaise ("InvalidLetter" : Str) ("at" : Str) (eCall (one' oLen) (aCons (eVar 0) aNil))) sNil)
    (sSeq (sIf (tVal (eOp (oEq false) (eOp oIx (eVar 0) (eC (.int 0))) (eC (.int 1)))) (sRet (eTup (aCons (eC (.str ("first" : Str))) (aCons (eSl (eVar 0) (oPart (eC (.int 1))) oNoP) aNil)))) sNil)
    (sSeq (sIf (tVal (eOp (oEq false) (eOp oIx (eVar 0) (eC (.int 0))) (eC (.int 2)))) (sRet (eTup (aCons (eC (.str ("answer" : Str))) (aCons (eCallF m_number_of [.inl 0] [] (aCons (eSl (eVar 0) (oPart (eC (.int 1))) (oPart (eC (.int 5)))) aNil)) (aCons (eSl (eVar 0) (oPart (eC (.int 5))) oNoP) aNil))))) sNil)
    (sSeq (sAsg (eCallF m_number_of [.inl 0] [] (aCons (eSl (eVar 0) (oPart (eC (.int 5))) (oPart (eC (.int 13)))) aNil)) (gNm 1))
    (sSeq (sIf (tNot' (tVal (eCallF m_is_counter [.inl 0] [] (aCons (eVar 1) aNil)))) (sRaise ("InvalidLetter" : Str) ("at" : Str) (eC (.int 12))) sNil)
    (sRet (eTup (aCons (eC (.str ("sealed" : Str))) (aCons (eCallF m_number_of [.inl 0] [] (aCons (eSl (eVar 0) (oPart (eC (.int 1))) (oPart (eC (.int 5)))) aNil)) (aCons (eVar 1) (aCons (eSl (eVar 0) (oPart (eC (.int 13))) oNoP) aNil)))))))))))))
noncomputable def m_read_datagram : Fx := runB 2 b_read_datagram
theorem sc_read_datagram : FnScope N_read_datagram ["value"] (defScope (top 35)) := ⟨rfl, rfl, rfl, nd_read_datagram, rfl, by decide +kernel, by decide +kernel⟩
theorem sm_read_datagram (T : Txt P K mg) : SimSs P w K mg base { N := N_read_datagram, sc := defScope (top 35), k := 4 } (defBody (top 35)) b_read_datagram :=
  (simSs_cons (simS_if (simT_not (simT_val (simE_cal (q := ⟨1, [], [.inl 0], []⟩) rfl (ok_is_octets T) (.head _) (by decide) rfl (simC_pos (simA_cons (simE_var rfl (.inl rfl)) simA_nil (fun _ => rfl)) (aLen_cons aLen_nil) (fun _ => rfl) (fun _ _ => rfl))) (fun _ _ => rfl))) (simSs_one (simS_raiseX rfl T.x_InvalidLetter rfl (simE_neg simE_int) (fun _ => rfl))) simSs_nil)
    (simSs_cons (simS_if (simT_W (simW_or (simT_cmp (ok_eq rfl) (simE_callB (ok_len) rfl T.n_len rfl (simA_cons (simE_var rfl (.inl rfl)) simA_nil (fun _ => rfl)) (fun _ => rfl) (fun _ => rfl)) simE_int rfl) (simW_or1 (simT_not (simT_chain ok_leI ok_leI (simE_gint rfl T.g_FIRST) (simE_ix ok_ix (simE_var rfl (.inl rfl)) simE_int (fun _ _ => rfl)) (simE_gint rfl T.g_SEALED) rfl))))) (simSs_one (simS_raiseX rfl T.x_InvalidLetter rfl simE_int (fun _ => rfl))) simSs_nil)
    (simSs_cons (simS_if (simT_cmp ok_ltI (simE_callB (ok_len) rfl T.n_len rfl (simA_cons (simE_var rfl (.inl rfl)) simA_nil (fun _ => rfl)) (fun _ => rfl) (fun _ => rfl)) (simE_ix ok_ix (simE_gtup rfl T.g_HEADS) (simE_ix ok_ix (simE_var rfl (.inl rfl)) simE_int (fun _ _ => rfl)) (fun _ _ => rfl)) rfl) (simSs_one (simS_raiseX rfl T.x_InvalidLetter rfl (simE_callB (ok_len) rfl T.n_len rfl (simA_cons (simE_var rfl (.inl rfl)) simA_nil (fun _ => rfl)) (fun _ => rfl) (fun _ => rfl)) (fun _ => rfl))) simSs_nil)
    (simSs_cons (simS_if (simT_cmp (ok_eq rfl) (simE_ix ok_ix (simE_var rfl (.inl rfl)) simE_int (fun _ _ => rfl)) (simE_gint rfl T.g_FIRST) rfl) (simSs_one (simS_ret (simE_tup (simA_cons simE_str (simA_cons (simE_sl (simE_var rfl (.inl rfl)) (simO_some simE_int) simO_none) simA_nil (fun _ => rfl)) (fun _ => rfl))))) simSs_nil)
    (simSs_cons (simS_if (simT_cmp (ok_eq rfl) (simE_ix ok_ix (simE_var rfl (.inl rfl)) simE_int (fun _ _ => rfl)) (simE_gint rfl T.g_ANSWER) rfl) (simSs_one (simS_ret (simE_tup (simA_cons simE_str (simA_cons (simE_cal (q := ⟨1, [], [.inl 0], []⟩) rfl (ok_number_of T) (.head _) (by decide) rfl (simC_pos (simA_cons (simE_sl (simE_var rfl (.inl rfl)) (simO_some simE_int) (simO_some simE_int)) simA_nil (fun _ => rfl)) (aLen_cons aLen_nil) (fun _ => rfl) (fun _ _ => rfl))) (simA_cons (simE_sl (simE_var rfl (.inl rfl)) (simO_some simE_int) simO_none) simA_nil (fun _ => rfl)) (fun _ => rfl)) (fun _ => rfl))))) simSs_nil)
    (simSs_cons (simS_set nd_read_datagram rfl (.inl rfl) (.inl rfl) (simE_cal (q := ⟨1, [], [.inl 0], []⟩) rfl (ok_number_of T) (.head _) (by decide) rfl (simC_pos (simA_cons (simE_sl (simE_var rfl (.inl rfl)) (simO_some simE_int) (simO_some simE_int)) simA_nil (fun _ => rfl)) (aLen_cons aLen_nil) (fun _ => rfl) (fun _ _ => rfl))) (fun _ => rfl))
    (simSs_cons (simS_if (simT_not (simT_val (simE_cal (q := ⟨1, [], [.inl 0], []⟩) rfl (ok_is_counter T) (.head _) (by decide) rfl (simC_pos (simA_cons (simE_var rfl (.inl rfl)) simA_nil (fun _ => rfl)) (aLen_cons aLen_nil) (fun _ => rfl) (fun _ _ => rfl))) (fun _ _ => rfl))) (simSs_one (simS_raiseX rfl T.x_InvalidLetter rfl simE_int (fun _ => rfl))) simSs_nil)
    (simSs_one (simS_ret (simE_tup (simA_cons simE_str (simA_cons (simE_cal (q := ⟨1, [], [.inl 0], []⟩) rfl (ok_number_of T) (.head _) (by decide) rfl (simC_pos (simA_cons (simE_sl (simE_var rfl (.inl rfl)) (simO_some simE_int) (simO_some simE_int)) simA_nil (fun _ => rfl)) (aLen_cons aLen_nil) (fun _ => rfl) (fun _ _ => rfl))) (simA_cons (simE_var rfl (.inl rfl)) (simA_cons (simE_sl (simE_var rfl (.inl rfl)) (simO_some simE_int) simO_none) simA_nil (fun _ => rfl)) (fun _ => rfl)) (fun _ => rfl)) (fun _ => rfl))))))))))))
theorem ok_read_datagram (T : Txt P K mg) : Cal P w K mg base 5 ("read_datagram" : Str) [("value" : Str)] m_read_datagram [⟨1, [], [.inl 0], []⟩, ⟨0, [("value" : Str)], [.inl 0], []⟩] := cal0 T.d_read_datagram sc_read_datagram (sm_read_datagram T) (ways_cons ⟨rfl, rfl, fun kV doc pm an cdv ct us ws hu hw => by match us, ws, hu, hw with | [u0], [], _, _ => rfl⟩ (ways_cons ⟨rfl, rfl, fun kV doc pm an cdv ct us ws hu hw => by match us, ws, hu, hw with | [], [w0], _, _ => rfl⟩ ways_nil))
/-! ### _law_deal -/
abbrev N__law_deal : List Str := ["script", "base", "cell", "cells", "mix"]
theorem nd__law_deal : N__law_deal.Nodup := by decide +kernel
noncomputable def b__law_deal : Sx :=
  (sSeq (sAsg (eLc (iSeq (eSl (eVar 0) oNoP (oPart (eC (.int 63))))) (gNm 2) tYes' (eCall (one' oAbs) (aCons (eCall (one' oInt1) (aCons (eVar 2) aNil)) aNil)) [2]) (gNm 3))
    (sSeq (sAsg (eOp oAdd (eOp oMul (eC (.int 40127)) (eVar 1)) (eC (.int 863))) (gNm 4))
    (sSeq (sFor (iSeq (eVar 3)) (gNm 2)
    (sAsg (eOp oMod (eCall (one' oInt1) (aCons (eOp oAdd (eOp oAdd (eOp oMul (eVar 4) (eC (.int 48271))) (eOp oMod (eVar 2) (eC (.int 2147483579)))) (eC (.int 61))) aNil)) (eC (.int 2147483647))) (gNm 4)))
    (sRet (eLst (aCons (eRev (eLc (iSeq (eVar 3)) (gNm 2) (tVal (eOp oGe (eVar 2) (eOp oPow (eC (.int 10)) (eC (.int 18))))) (eVar 2) [2])) (aCons (eVar 4) aNil)))))))
noncomputable def m__law_deal : Fx := runB 5 b__law_deal
theorem sc__law_deal : FnScope N__law_deal ["script", "base"] (defScope (top 43)) := ⟨rfl, rfl, rfl, nd__law_deal, rfl, by decide +kernel, by decide +kernel⟩
theorem sm__law_deal (T : Txt P K mg) : SimSs P w K mg base { N := N__law_deal, sc := defScope (top 43), k := 0 } (defBody (top 43)) b__law_deal :=
  (simSs_cons (simS_setLc rfl nd__law_deal rfl rfl rfl rfl (by decide +kernel) (simI_seq (simE_sl (simE_var rfl (.inl rfl)) simO_none (simO_some simE_int))) (own := [(("cell" : Str), 2)]) ⟨rfl, by decide +kernel, by decide +kernel, by decide +kernel, by decide +kernel⟩ (simG_name nd__law_deal rfl (by first | exact .inl rfl | exact .inr rfl) (by first | exact .inl rfl | exact .inr rfl)) simP_nil (simE_callB (ok_abs) rfl T.n_abs rfl (simA_cons (simE_callTy (ok_int1) rfl T.n_int rfl (simA_cons (simE_var rfl (by first | exact .inl rfl | exact .inr (.inl rfl) | exact .inr (.inr rfl))) simA_nil (fun _ => rfl)) (fun _ => rfl) (fun _ => rfl)) simA_nil (fun _ => rfl)) (fun _ => rfl) (fun _ => rfl)) (fun _ _ => rfl))
    (simSs_cons (simS_set nd__law_deal rfl (.inl rfl) (.inl rfl) (simE_op ok_add (simE_op ok_mul simE_int (simE_var rfl (.inl rfl))) simE_int) (fun _ => rfl))
    (simSs_cons (simS_for rfl (simI_seq (simE_var rfl (.inl rfl))) (simG_name nd__law_deal rfl (.inl rfl) (.inl rfl))
    (simSs_one (simS_set nd__law_deal rfl (.inl rfl) (.inl rfl) (simE_op ok_mod (simE_callTy (ok_int1) rfl T.n_int rfl (simA_cons (simE_op ok_add (simE_op ok_add (simE_op ok_mul (simE_var rfl (.inl rfl)) simE_int) (simE_op ok_mod (simE_var rfl (.inl rfl)) simE_int)) simE_int) simA_nil (fun _ => rfl)) (fun _ => rfl) (fun _ => rfl)) simE_int) (fun _ => rfl))) (fun _ _ => rfl))
    (simSs_one (simS_ret (simE_lst (simA_cons (simE_rev (simE_lc rfl nd__law_deal (simI_seq (simE_var rfl (.inl rfl))) (own := [(("cell" : Str), 2)]) ⟨rfl, by decide +kernel, by decide +kernel, by decide +kernel, by decide +kernel⟩ (simG_name nd__law_deal rfl (by first | exact .inl rfl | exact .inr rfl) (by first | exact .inl rfl | exact .inr rfl)) (simP_one (simT_cmp ok_geI (simE_var rfl (by first | exact .inl rfl | exact .inr (.inl rfl) | exact .inr (.inr rfl))) (simE_op ok_pow simE_int simE_int) rfl)) (simE_var rfl (by first | exact .inl rfl | exact .inr (.inl rfl) | exact .inr (.inr rfl))) (fun _ _ => rfl))) (simA_cons (simE_var rfl (.inl rfl)) simA_nil (fun _ => rfl)) (fun _ => rfl))))))))
theorem ok__law_deal (T : Txt P K mg) : Cal P w K mg base 1 ("_law_deal" : Str) [("script" : Str), ("base" : Str)] m__law_deal [⟨2, [], [.inl 0, .inl 1], []⟩] := cal0 T.d__law_deal sc__law_deal (sm__law_deal T) (ways_cons ⟨rfl, rfl, fun kV doc pm an cdv ct us ws hu hw => by match us, ws, hu, hw with | [u0, u1], [], _, _ => rfl⟩ ways_nil)
/-! ### _law_any -/
abbrev N__law_any : List Str := ["deal", "bound", "rest"]
theorem nd__law_any : N__law_any.Nodup := by decide +kernel
noncomputable def b__law_any : Sx :=
  (sSeq (sWhile (tAnd' (tVal (eOp (oEq true) (eOp oIx (eVar 0) (eC (.int 0))) (eLst aNil))) (tVal (eOp (oEq false) (eOp oIx (eOp oIx (eVar 0) (eC (.int 0))) (eUn oNeg (eC (.int 1)))) (eC (.int 0))))) (sDrop (eLm mPop (eOp oIx (eVar 0) (eC (.int 0))) aNil)))
    (sSeq (sIf (tVal (eOp (oEq true) (eOp oIx (eVar 0) (eC (.int 0))) (eLst aNil))) (sSeq (sAsg (eCall (one' oInt1) (aCons (eLm mPop (eOp oIx (eVar 0) (eC (.int 0))) aNil) aNil)) (gNm 2))
    (sSeq (sDrop (eLm mAppend (eOp oIx (eVar 0) (eC (.int 0))) (aCons (eOp oFdiv (eVar 2) (eVar 1)) aNil)))
    (sRet (eOp oMod (eVar 2) (eVar 1))))) sNil)
    (sSeq (sSub kSetL (eVar 0) (eC (.int 1)) (eOp oMod (eCall (one' oInt1) (aCons (eOp oAdd (eOp oMul (eOp oIx (eVar 0) (eC (.int 1))) (eC (.int 48271))) (eC (.int 83))) aNil)) (eC (.int 2147483647))))
    (sRet (eOp oMod (eCall (one' oInt1) (aCons (eOp oFdiv (eOp oIx (eVar 0) (eC (.int 1))) (eC (.int 64))) aNil)) (eVar 1))))))
noncomputable def m__law_any : Fx := runB 3 b__law_any
theorem sc__law_any : FnScope N__law_any ["deal", "bound"] (defScope (top 44)) := ⟨rfl, rfl, rfl, nd__law_any, rfl, by decide +kernel, by decide +kernel⟩
theorem sm__law_any (T : Txt P K mg) : SimSs P w K mg base { N := N__law_any, sc := defScope (top 44), k := 0 } (defBody (top 44)) b__law_any :=
  (simSs_cons (simS_while (simT_W (simW_and (simT_cmp (ok_ne rfl) (simE_ix ok_ix (simE_var rfl (.inl rfl)) simE_int (fun _ _ => rfl)) (simE_lst simA_nil) rfl) (simW_and1 (simT_cmp (ok_eq rfl) (simE_ix ok_ix (simE_ix ok_ix (simE_var rfl (.inl rfl)) simE_int (fun _ _ => rfl)) (simE_neg simE_int) (fun _ _ => rfl)) simE_int rfl)))) (simSs_one (simS_expr (simE_lm0 ok_pop PySem.F.slot_list_pop PySem.F.type_list_pop (simE_ix ok_ix (simE_var rfl (.inl rfl)) simE_int (fun _ _ => rfl)) (fun _ => rfl) rfl) (fun _ => rfl))))
    (simSs_cons (simS_if (simT_cmp (ok_ne rfl) (simE_ix ok_ix (simE_var rfl (.inl rfl)) simE_int (fun _ _ => rfl)) (simE_lst simA_nil) rfl) (simSs_cons (simS_set nd__law_any rfl (.inl rfl) (.inl rfl) (simE_callTy (ok_int1) rfl T.n_int rfl (simA_cons (simE_lm0 ok_pop PySem.F.slot_list_pop PySem.F.type_list_pop (simE_ix ok_ix (simE_var rfl (.inl rfl)) simE_int (fun _ _ => rfl)) (fun _ => rfl) rfl) simA_nil (fun _ => rfl)) (fun _ => rfl) (fun _ => rfl)) (fun _ => rfl))
    (simSs_cons (simS_expr (simE_lm ok_append PySem.F.slot_list_append PySem.F.type_list_append (simE_ix ok_ix (simE_var rfl (.inl rfl)) simE_int (fun _ _ => rfl)) (simA_cons (simE_op ok_fdiv (simE_var rfl (.inl rfl)) (simE_var rfl (.inl rfl))) simA_nil (fun _ => rfl)) (fun _ => rfl) (fun _ => rfl) rfl (fun _ => rfl) (fun _ => rfl)) (fun _ => rfl))
    (simSs_one (simS_ret (simE_op ok_mod (simE_var rfl (.inl rfl)) (simE_var rfl (.inl rfl))))))) simSs_nil)
    (simSs_cons (simS_sub ok_setL (simE_op ok_mod (simE_callTy (ok_int1) rfl T.n_int rfl (simA_cons (simE_op ok_add (simE_op ok_mul (simE_ix ok_ix (simE_var rfl (.inl rfl)) simE_int (fun _ _ => rfl)) simE_int) simE_int) simA_nil (fun _ => rfl)) (fun _ => rfl) (fun _ => rfl)) simE_int) (simE_var rfl (.inl rfl)) simE_int (fun _ => rfl) (fun _ _ => rfl) (fun _ => rfl) (fun _ _ => rfl))
    (simSs_one (simS_ret (simE_op ok_mod (simE_callTy (ok_int1) rfl T.n_int rfl (simA_cons (simE_op ok_fdiv (simE_ix ok_ix (simE_var rfl (.inl rfl)) simE_int (fun _ _ => rfl)) simE_int) simA_nil (fun _ => rfl)) (fun _ => rfl) (fun _ => rfl)) (simE_var rfl (.inl rfl))))))))
theorem ok__law_any (T : Txt P K mg) : Cal P w K mg base 1 ("_law_any" : Str) [("deal" : Str), ("bound" : Str)] m__law_any [⟨2, [], [.inl 0, .inl 1], []⟩] := cal0 T.d__law_any sc__law_any (sm__law_any T) (ways_cons ⟨rfl, rfl, fun kV doc pm an cdv ct us ws hu hw => by match us, ws, hu, hw with | [u0, u1], [], _, _ => rfl⟩ ways_nil)
/-! ### _law_of -/
abbrev N__law_of : List Str := ["deal", "some"]
theorem nd__law_of : N__law_of.Nodup := by decide +kernel
noncomputable def b__law_of : Sx :=
  (sRet (eOp oIx (eVar 1) (eCallF m__law_any [.inl 0, .inl 1] [] (aCons (eVar 0) (aCons (eCall (one' oLen) (aCons (eVar 1) aNil)) aNil)))))
noncomputable def m__law_of : Fx := runB 2 b__law_of
theorem sc__law_of : FnScope N__law_of ["deal", "some"] (defScope (top 45)) := ⟨rfl, rfl, rfl, nd__law_of, rfl, by decide +kernel, by decide +kernel⟩
theorem sm__law_of (T : Txt P K mg) : SimSs P w K mg base { N := N__law_of, sc := defScope (top 45), k := 1 } (defBody (top 45)) b__law_of :=
  (simSs_one (simS_ret (simE_ix ok_ix (simE_var rfl (.inl rfl)) (simE_cal (q := ⟨2, [], [.inl 0, .inl 1], []⟩) rfl (ok__law_any T) (.head _) (by decide) rfl (simC_pos (simA_cons (simE_var rfl (.inl rfl)) (simA_cons (simE_callB (ok_len) rfl T.n_len rfl (simA_cons (simE_var rfl (.inl rfl)) simA_nil (fun _ => rfl)) (fun _ => rfl) (fun _ => rfl)) simA_nil (fun _ => rfl)) (fun _ => rfl)) (aLen_cons (aLen_cons aLen_nil)) (fun _ => rfl) (fun _ _ => rfl))) (fun _ _ => rfl))))
theorem ok__law_of (T : Txt P K mg) : Cal P w K mg base 2 ("_law_of" : Str) [("deal" : Str), ("some" : Str)] m__law_of [⟨2, [], [.inl 0, .inl 1], []⟩] := cal0 T.d__law_of sc__law_of (sm__law_of T) (ways_cons ⟨rfl, rfl, fun kV doc pm an cdv ct us ws hu hw => by match us, ws, hu, hw with | [u0, u1], [], _, _ => rfl⟩ ways_nil)
/-! ### _law_octets -/
abbrev N__law_octets : List Str := ["deal", "many", "at"]
theorem nd__law_octets : N__law_octets.Nodup := by decide +kernel
noncomputable def b__law_octets : Sx :=
  (sRet (eCall (one' oTuple) (aCons (eLc (iRange1 (eVar 1)) (gNm 2) tYes' (eCallF m__law_any [.inl 0, .inl 1] [] (aCons (eVar 0) (aCons (eC (.int 256)) aNil))) [2]) aNil)))
noncomputable def m__law_octets : Fx := runB 3 b__law_octets
theorem sc__law_octets : FnScope N__law_octets ["deal", "many"] (defScope (top 46)) := ⟨rfl, rfl, rfl, nd__law_octets, rfl, by decide +kernel, by decide +kernel⟩
theorem sm__law_octets (T : Txt P K mg) : SimSs P w K mg base { N := N__law_octets, sc := defScope (top 46), k := 1 } (defBody (top 46)) b__law_octets :=
  (simSs_one (simS_ret (simE_callTy (ok_tuple) rfl T.n_tuple rfl (simA_cons (simE_lc rfl nd__law_octets (simI_range1 rfl T.n_range (simE_var rfl (.inl rfl)) (fun _ => rfl)) (own := [(("at" : Str), 2)]) ⟨rfl, by decide +kernel, by decide +kernel, by decide +kernel, by decide +kernel⟩ (simG_name nd__law_octets rfl (by first | exact .inl rfl | exact .inr rfl) (by first | exact .inl rfl | exact .inr rfl)) simP_nil (simE_cal (q := ⟨2, [], [.inl 0, .inl 1], []⟩) rfl (ok__law_any T) (.head _) (by decide) rfl (simC_pos (simA_cons (simE_var rfl (by first | exact .inl rfl | exact .inr (.inl rfl) | exact .inr (.inr rfl))) (simA_cons simE_int simA_nil (fun _ => rfl)) (fun _ => rfl)) (aLen_cons (aLen_cons aLen_nil)) (fun _ => rfl) (fun _ _ => rfl))) (fun _ _ => rfl)) simA_nil (fun _ => rfl)) (fun _ => rfl) (fun _ => rfl))))
theorem ok__law_octets (T : Txt P K mg) : Cal P w K mg base 2 ("_law_octets" : Str) [("deal" : Str), ("many" : Str)] m__law_octets [⟨2, [], [.inl 0, .inl 1], []⟩] := cal0 T.d__law_octets sc__law_octets (sm__law_octets T) (ways_cons ⟨rfl, rfl, fun kV doc pm an cdv ct us ws hu hw => by match us, ws, hu, hw with | [u0, u1], [], _, _ => rfl⟩ ways_nil)
/-! ### _law_low -/
abbrev N__law_low : List Str := ["number", "size", "found", "turn"]
theorem nd__law_low : N__law_low.Nodup := by decide +kernel
noncomputable def b__law_low : Sx :=
  (sSeq (sAsg (eLst aNil) (gNm 2))
    (sSeq (sFor (iRange1 (eVar 1)) (gNm 3)
    (sSeq (sDrop (eLm mAppend (eVar 2) (aCons (eOp oMod (eCall (one' oInt1) (aCons (eVar 0) aNil)) (eC (.int 256))) aNil)))
    (sAsg (eOp oFdiv (eVar 0) (eC (.int 256))) (gNm 0))))
    (sRet (eCall (one' oTuple) (aCons (eVar 2) aNil)))))
noncomputable def m__law_low : Fx := runB 4 b__law_low
theorem sc__law_low : FnScope N__law_low ["number", "size"] (defScope (top 47)) := ⟨rfl, rfl, rfl, nd__law_low, rfl, by decide +kernel, by decide +kernel⟩
theorem sm__law_low (T : Txt P K mg) : SimSs P w K mg base { N := N__law_low, sc := defScope (top 47), k := 0 } (defBody (top 47)) b__law_low :=
  (simSs_cons (simS_set nd__law_low rfl (.inl rfl) (.inl rfl) (simE_lst simA_nil) (fun _ => rfl))
    (simSs_cons (simS_for rfl (simI_range1 rfl T.n_range (simE_var rfl (.inl rfl)) (fun _ => rfl)) (simG_name nd__law_low rfl (.inl rfl) (.inl rfl))
    (simSs_cons (simS_expr (simE_lm ok_append PySem.F.slot_list_append PySem.F.type_list_append (simE_var rfl (.inl rfl)) (simA_cons (simE_op ok_mod (simE_callTy (ok_int1) rfl T.n_int rfl (simA_cons (simE_var rfl (.inl rfl)) simA_nil (fun _ => rfl)) (fun _ => rfl) (fun _ => rfl)) simE_int) simA_nil (fun _ => rfl)) (fun _ => rfl) (fun _ => rfl) rfl (fun _ => rfl) (fun _ => rfl)) (fun _ => rfl))
    (simSs_one (simS_set nd__law_low rfl (.inl rfl) (.inl rfl) (simE_op ok_fdiv (simE_var rfl (.inl rfl)) simE_int) (fun _ => rfl)))) (fun _ _ => rfl))
    (simSs_one (simS_ret (simE_callTy (ok_tuple) rfl T.n_tuple rfl (simA_cons (simE_var rfl (.inl rfl)) simA_nil (fun _ => rfl)) (fun _ => rfl) (fun _ => rfl))))))
theorem ok__law_low (T : Txt P K mg) : Cal P w K mg base 1 ("_law_low" : Str) [("number" : Str), ("size" : Str)] m__law_low [⟨2, [], [.inl 0, .inl 1], []⟩] := cal0 T.d__law_low sc__law_low (sm__law_low T) (ways_cons ⟨rfl, rfl, fun kV doc pm an cdv ct us ws hu hw => by match us, ws, hu, hw with | [u0, u1], [], _, _ => rfl⟩ ways_nil)
/-! ### _law_value -/
abbrev N__law_value : List Str := ["deal", "kind", "many", "row", "at"]
theorem nd__law_value : N__law_value.Nodup := by decide +kernel
noncomputable def b__law_value : Sx :=
  (sSeq (sAsg (eCallF m__law_any [.inl 0, .inl 1] [] (aCons (eVar 0) (aCons (eC (.int 9)) aNil))) (gNm 1))
    (sSeq (sIf (tVal (eOp oLt (eVar 1) (eC (.int 6)))) (sSeq (sAsg (eCallF m__law_any [.inl 0, .inl 1] [] (aCons (eVar 0) (aCons (eC (.int 25)) aNil))) (gNm 2))
    (sRet (eOp oAdd (eTup (aCons (eCallF m__law_any [.inl 0, .inl 1] [] (aCons (eVar 0) (aCons (eC (.int 5)) aNil))) aNil)) (eCallF m__law_octets [.inl 0, .inl 1] [] (aCons (eVar 0) (aCons (eVar 2) aNil)))))) sNil)
    (sSeq (sIf (tVal (eOp (oEq false) (eVar 1) (eC (.int 6)))) (sRet (eCallF m__law_of [.inl 0, .inl 1] [] (aCons (eVar 0) (aCons (eLst (aCons (eC .non) (aCons (eC (.bl true)) (aCons (eC (.int 3)) (aCons (eC (.str ("" : Str))) (aCons (eC (.str ("abc" : Str))) (aCons (eLst aNil) (aCons (eLst (aCons (eC (.int 1)) (aCons (eC (.int 2)) aNil))) (aCons (eLst (aCons (eTup (aCons (eC (.int 1)) aNil)) aNil)) (aCons (eTup aNil) aNil)))))))))) aNil)))) sNil)
    (sSeq (sAsg (eOp oAdd (eLst (aCons (eCallF m__law_any [.inl 0, .inl 1] [] (aCons (eVar 0) (aCons (eC (.int 4)) aNil))) aNil)) (eLc (iRange1 (eCallF m__law_any [.inl 0, .inl 1] [] (aCons (eVar 0) (aCons (eC (.int 16)) aNil)))) (gNm 4) tYes' (eCallF m__law_any [.inl 0, .inl 1] [] (aCons (eVar 0) (aCons (eC (.int 256)) aNil))) [4])) (gNm 3))
    (sSeq (sSub kSetL (eVar 3) (eCallF m__law_any [.inl 0, .inl 1] [] (aCons (eVar 0) (aCons (eCall (one' oLen) (aCons (eVar 3) aNil)) aNil))) (eCallF m__law_of [.inl 0, .inl 1] [] (aCons (eVar 0) (aCons (eLst (aCons (eC (.int 256)) (aCons (eUn oNeg (eC (.int 1))) (aCons (eC (.bl true)) (aCons (eC (.bl false)) (aCons (eC .non) (aCons (eC (.str ("1" : Str))) (aCons (eTup (aCons (eC (.int 1)) aNil)) (aCons (eOp oPow (eC (.int 10)) (eC (.int 30))) aNil))))))))) aNil))))
    (sRet (eIf (tVal (eOp (oEq false) (eVar 1) (eC (.int 7)))) (eCall (one' oTuple) (aCons (eVar 3) aNil)) (eVar 3))))))))
noncomputable def m__law_value : Fx := runB 5 b__law_value
theorem sc__law_value : FnScope N__law_value ["deal"] (defScope (top 50)) := ⟨rfl, rfl, rfl, nd__law_value, rfl, by decide +kernel, by decide +kernel⟩
theorem sm__law_value (T : Txt P K mg) : SimSs P w K mg base { N := N__law_value, sc := defScope (top 50), k := 2 } (defBody (top 50)) b__law_value :=
  (simSs_cons (simS_set nd__law_value rfl (.inl rfl) (.inl rfl) (simE_cal (q := ⟨2, [], [.inl 0, .inl 1], []⟩) rfl (ok__law_any T) (.head _) (by decide) rfl (simC_pos (simA_cons (simE_var rfl (.inr (.inl rfl))) (simA_cons simE_int simA_nil (fun _ => rfl)) (fun _ => rfl)) (aLen_cons (aLen_cons aLen_nil)) (fun _ => rfl) (fun _ _ => rfl))) (fun _ => rfl))
    (simSs_cons (simS_if (simT_cmp ok_ltI (simE_var rfl (.inl rfl)) simE_int rfl) (simSs_cons (simS_set nd__law_value rfl (.inl rfl) (.inl rfl) (simE_cal (q := ⟨2, [], [.inl 0, .inl 1], []⟩) rfl (ok__law_any T) (.head _) (by decide) rfl (simC_pos (simA_cons (simE_var rfl (.inr (.inl rfl))) (simA_cons simE_int simA_nil (fun _ => rfl)) (fun _ => rfl)) (aLen_cons (aLen_cons aLen_nil)) (fun _ => rfl) (fun _ _ => rfl))) (fun _ => rfl))
    (simSs_one (simS_ret (simE_op ok_add (simE_tup (simA_cons (simE_cal (q := ⟨2, [], [.inl 0, .inl 1], []⟩) rfl (ok__law_any T) (.head _) (by decide) rfl (simC_pos (simA_cons (simE_var rfl (.inr (.inl rfl))) (simA_cons simE_int simA_nil (fun _ => rfl)) (fun _ => rfl)) (aLen_cons (aLen_cons aLen_nil)) (fun _ => rfl) (fun _ _ => rfl))) simA_nil (fun _ => rfl))) (simE_cal (q := ⟨2, [], [.inl 0, .inl 1], []⟩) rfl (ok__law_octets T) (.head _) (by decide) rfl (simC_pos (simA_cons (simE_var rfl (.inr (.inl rfl))) (simA_cons (simE_var rfl (.inl rfl)) simA_nil (fun _ => rfl)) (fun _ => rfl)) (aLen_cons (aLen_cons aLen_nil)) (fun _ => rfl) (fun _ _ => rfl))))))) simSs_nil)
    (simSs_cons (simS_if (simT_cmp (ok_eq rfl) (simE_var rfl (.inl rfl)) simE_int rfl) (simSs_one (simS_ret (simE_cal (q := ⟨2, [], [.inl 0, .inl 1], []⟩) rfl (ok__law_of T) (.head _) (by decide) rfl (simC_pos (simA_cons (simE_var rfl (.inr (.inl rfl))) (simA_cons (simE_lst (simA_cons simE_non (simA_cons simE_bl (simA_cons simE_int (simA_cons simE_str (simA_cons simE_str (simA_cons (simE_lst simA_nil) (simA_cons (simE_lst (simA_cons simE_int (simA_cons simE_int simA_nil (fun _ => rfl)) (fun _ => rfl))) (simA_cons (simE_lst (simA_cons (simE_tup (simA_cons simE_int simA_nil (fun _ => rfl))) simA_nil (fun _ => rfl))) (simA_cons (simE_tup simA_nil) simA_nil (fun _ => rfl)) (fun _ => rfl)) (fun _ => rfl)) (fun _ => rfl)) (fun _ => rfl)) (fun _ => rfl)) (fun _ => rfl)) (fun _ => rfl)) (fun _ => rfl))) simA_nil (fun _ => rfl)) (fun _ => rfl)) (aLen_cons (aLen_cons aLen_nil)) (fun _ => rfl) (fun _ _ => rfl))))) simSs_nil)
    (simSs_cons (simS_set nd__law_value rfl (.inl rfl) (.inl rfl) (simE_op ok_add (simE_lst (simA_cons (simE_cal (q := ⟨2, [], [.inl 0, .inl 1], []⟩) rfl (ok__law_any T) (.head _) (by decide) rfl (simC_pos (simA_cons (simE_var rfl (.inr (.inl rfl))) (simA_cons simE_int simA_nil (fun _ => rfl)) (fun _ => rfl)) (aLen_cons (aLen_cons aLen_nil)) (fun _ => rfl) (fun _ _ => rfl))) simA_nil (fun _ => rfl))) (simE_lc rfl nd__law_value (simI_range1 rfl T.n_range (simE_cal (q := ⟨2, [], [.inl 0, .inl 1], []⟩) rfl (ok__law_any T) (.head _) (by decide) rfl (simC_pos (simA_cons (simE_var rfl (.inr (.inl rfl))) (simA_cons simE_int simA_nil (fun _ => rfl)) (fun _ => rfl)) (aLen_cons (aLen_cons aLen_nil)) (fun _ => rfl) (fun _ _ => rfl))) (fun _ => rfl)) (own := [(("at" : Str), 4)]) ⟨rfl, by decide +kernel, by decide +kernel, by decide +kernel, by decide +kernel⟩ (simG_name nd__law_value rfl (by first | exact .inl rfl | exact .inr rfl) (by first | exact .inl rfl | exact .inr rfl)) simP_nil (simE_cal (q := ⟨2, [], [.inl 0, .inl 1], []⟩) rfl (ok__law_any T) (.head _) (by decide) rfl (simC_pos (simA_cons (simE_var rfl (by first | exact .inl rfl | exact .inr (.inl rfl) | exact .inr (.inr rfl))) (simA_cons simE_int simA_nil (fun _ => rfl)) (fun _ => rfl)) (aLen_cons (aLen_cons aLen_nil)) (fun _ => rfl) (fun _ _ => rfl))) (fun _ _ => rfl))) (fun _ => rfl))
    (simSs_cons (simS_sub ok_setL (simE_cal (q := ⟨2, [], [.inl 0, .inl 1], []⟩) rfl (ok__law_of T) (.head _) (by decide) rfl (simC_pos (simA_cons (simE_var rfl (.inr (.inl rfl))) (simA_cons (simE_lst (simA_cons simE_int (simA_cons (simE_neg simE_int) (simA_cons simE_bl (simA_cons simE_bl (simA_cons simE_non (simA_cons simE_str (simA_cons (simE_tup (simA_cons simE_int simA_nil (fun _ => rfl))) (simA_cons (simE_op ok_pow simE_int simE_int) simA_nil (fun _ => rfl)) (fun _ => rfl)) (fun _ => rfl)) (fun _ => rfl)) (fun _ => rfl)) (fun _ => rfl)) (fun _ => rfl)) (fun _ => rfl))) simA_nil (fun _ => rfl)) (fun _ => rfl)) (aLen_cons (aLen_cons aLen_nil)) (fun _ => rfl) (fun _ _ => rfl))) (simE_var rfl (.inl rfl)) (simE_cal (q := ⟨2, [], [.inl 0, .inl 1], []⟩) rfl (ok__law_any T) (.head _) (by decide) rfl (simC_pos (simA_cons (simE_var rfl (.inr (.inl rfl))) (simA_cons (simE_callB (ok_len) rfl T.n_len rfl (simA_cons (simE_var rfl (.inl rfl)) simA_nil (fun _ => rfl)) (fun _ => rfl) (fun _ => rfl)) simA_nil (fun _ => rfl)) (fun _ => rfl)) (aLen_cons (aLen_cons aLen_nil)) (fun _ => rfl) (fun _ _ => rfl))) (fun _ => rfl) (fun _ _ => rfl) (fun _ => rfl) (fun _ _ => rfl))
    (simSs_one (simS_ret (simE_if (simT_cmp (ok_eq rfl) (simE_var rfl (.inl rfl)) simE_int rfl) (simE_callTy (ok_tuple) rfl T.n_tuple rfl (simA_cons (simE_var rfl (.inl rfl)) simA_nil (fun _ => rfl)) (fun _ => rfl) (fun _ => rfl)) (simE_var rfl (.inl rfl))))))))))
theorem ok__law_value (T : Txt P K mg) : Cal P w K mg base 3 ("_law_value" : Str) [("deal" : Str)] m__law_value [⟨1, [], [.inl 0], []⟩] := cal0 T.d__law_value sc__law_value (sm__law_value T) (ways_cons ⟨rfl, rfl, fun kV doc pm an cdv ct us ws hu hw => by match us, ws, hu, hw with | [u0], [], _, _ => rfl⟩ ways_nil)
/-! ### _law_number -/
abbrev N__law_number : List Str := ["octets", "found", "octet"]
theorem nd__law_number : N__law_number.Nodup := by decide +kernel
noncomputable def b__law_number : Sx :=
  (sSeq (sAsg (eC (.int 0)) (gNm 1))
    (sSeq (sFor (iSeq (eRev (eVar 0))) (gNm 2)
    (sAsg (eOp oAdd (eOp oMul (eC (.int 256)) (eVar 1)) (eVar 2)) (gNm 1)))
    (sRet (eVar 1))))
noncomputable def m__law_number : Fx := runB 3 b__law_number
theorem sc__law_number : FnScope N__law_number ["octets"] (defScope (top 49)) := ⟨rfl, rfl, rfl, nd__law_number, rfl, by decide +kernel, by decide +kernel⟩
theorem sm__law_number (T : Txt P K mg) : SimSs P w K mg base { N := N__law_number, sc := defScope (top 49), k := 0 } (defBody (top 49)) b__law_number :=
  (simSs_cons (simS_set nd__law_number rfl (.inl rfl) (.inl rfl) simE_int (fun _ => rfl))
    (simSs_cons (simS_for rfl (simI_seq (simE_rev (simE_var rfl (.inl rfl)))) (simG_name nd__law_number rfl (.inl rfl) (.inl rfl))
    (simSs_one (simS_set nd__law_number rfl (.inl rfl) (.inl rfl) (simE_op ok_add (simE_op ok_mul simE_int (simE_var rfl (.inl rfl))) (simE_var rfl (.inl rfl))) (fun _ => rfl))) (fun _ _ => rfl))
    (simSs_one (simS_ret (simE_var rfl (.inl rfl))))))
theorem ok__law_number (T : Txt P K mg) : Cal P w K mg base 1 ("_law_number" : Str) [("octets" : Str)] m__law_number [⟨1, [], [.inl 0], []⟩] := cal0 T.d__law_number sc__law_number (sm__law_number T) (ways_cons ⟨rfl, rfl, fun kV doc pm an cdv ct us ws hu hw => by match us, ws, hu, hw with | [u0], [], _, _ => rfl⟩ ways_nil)
/-! ### _law_is_octets -/
abbrev N__law_is_octets : List Str := ["value", "thing"]
theorem nd__law_is_octets : N__law_is_octets.Nodup := by decide +kernel
noncomputable def b__law_is_octets : Sx :=
  (sSeq (sIf (tNot' (tVal (eCall (two' oIsi) (aCons (eVar 0) (aCons (eC (.ty "tuple")) aNil))))) (sRet (eC (.bl false))) sNil)
    (sSeq (sFor (iSeq (eVar 0)) (gNm 1)
    (sIf (tOr' (tNot' (tVal (eCall (two' oIsi) (aCons (eVar 1) (aCons (eC (.ty "int")) aNil))))) (tOr' (tVal (eCall (two' oIsi) (aCons (eVar 1) (aCons (eC (.ty "bool")) aNil)))) (tOr' (tVal (eOp oLt (eVar 1) (eC (.int 0)))) (tVal (eOp oGt (eVar 1) (eC (.int 255))))))) (sRet (eC (.bl false))) sNil))
    (sRet (eC (.bl true)))))
noncomputable def m__law_is_octets : Fx := runB 2 b__law_is_octets
theorem sc__law_is_octets : FnScope N__law_is_octets ["value"] (defScope (top 51)) := ⟨rfl, rfl, rfl, nd__law_is_octets, rfl, by decide +kernel, by decide +kernel⟩
theorem sm__law_is_octets (T : Txt P K mg) : SimSs P w K mg base { N := N__law_is_octets, sc := defScope (top 51), k := 0 } (defBody (top 51)) b__law_is_octets :=
  (simSs_cons (simS_if (simT_not (simT_val (simE_callB (ok_isi) rfl T.n_isinstance rfl (simA_cons (simE_var rfl (.inl rfl)) (simA_cons (simE_ty rfl T.n_tuple rfl) simA_nil (fun _ => rfl)) (fun _ => rfl)) (fun _ => rfl) (fun _ => rfl)) (fun _ _ => rfl))) (simSs_one (simS_ret simE_bl)) simSs_nil)
    (simSs_cons (simS_for rfl (simI_seq (simE_var rfl (.inl rfl))) (simG_name nd__law_is_octets rfl (.inl rfl) (.inl rfl))
    (simSs_one (simS_if (simT_W (simW_or (simT_not (simT_val (simE_callB (ok_isi) rfl T.n_isinstance rfl (simA_cons (simE_var rfl (.inl rfl)) (simA_cons (simE_ty rfl T.n_int rfl) simA_nil (fun _ => rfl)) (fun _ => rfl)) (fun _ => rfl) (fun _ => rfl)) (fun _ _ => rfl))) (simW_or (simT_val (simE_callB (ok_isi) rfl T.n_isinstance rfl (simA_cons (simE_var rfl (.inl rfl)) (simA_cons (simE_ty rfl T.n_bool rfl) simA_nil (fun _ => rfl)) (fun _ => rfl)) (fun _ => rfl) (fun _ => rfl)) (fun _ _ => rfl)) (simW_or (simT_cmp ok_ltI (simE_var rfl (.inl rfl)) simE_int rfl) (simW_or1 (simT_cmp ok_gtI (simE_var rfl (.inl rfl)) simE_int rfl)))))) (simSs_one (simS_ret simE_bl)) simSs_nil)) (fun _ _ => rfl))
    (simSs_one (simS_ret simE_bl))))
theorem ok__law_is_octets (T : Txt P K mg) : Cal P w K mg base 1 ("_law_is_octets" : Str) [("value" : Str)] m__law_is_octets [⟨1, [], [.inl 0], []⟩] := cal0 T.d__law_is_octets sc__law_is_octets (sm__law_is_octets T) (ways_cons ⟨rfl, rfl, fun kV doc pm an cdv ct us ws hu hw => by match us, ws, hu, hw with | [u0], [], _, _ => rfl⟩ ways_nil)
/-! ### _law_read -/
abbrev N__law_read : List Str := ["value", "number"]
theorem nd__law_read : N__law_read.Nodup := by decide +kernel
noncomputable def b__law_read : Sx :=
  (sSeq (sIf (tNot' (tVal (eCallF m__law_is_octets [.inl 0] [] (aCons (eVar 0) aNil)))) (sRet (eLst (aCons (eC (.str ("wrong" : Str))) (aCons (eUn oNeg (eC (.int 1))) aNil)))) sNil)
    (sSeq (sIf (tOr' (tVal (eOp (oEq false) (eCall (one' oLen) (aCons (eVar 0) aNil)) (eC (.int 0)))) (tVal (eOp (oIn true) (eOp oIx (eVar 0) (eC (.int 0))) (eLst (aCons (eC (.int 1)) (aCons (eC (.int 2)) (aCons (eC (.int 3)) aNil))))))) (sRet (eLst (aCons (eC (.str ("wrong" : Str))) (aCons (eC (.int 0)) aNil)))) sNil)
    (sSeq (sIf (tVal (eOp oLt (eCall (one' oLen) (aCons (eVar 0) aNil)) (eOp oIx (eLst (aCons (eC (.int 0)) (aCons (eC (.int 1)) (aCons (eC (.int 5)) (aCons (eC (.int 13)) aNil))))) (eOp oIx (eVar 0) (eC (.int 0)))))) (sRet (eLst (aCons (eC (.str ("wrong" : Str))) (aCons (eCall (one' oLen) (aCons (eVar 0) aNil)) aNil)))) sNil)
    (sSeq (sIf (tVal (eOp (oEq false) (eOp oIx (eVar 0) (eC (.int 0))) (eC (.int 1)))) (sRet (eTup (aCons (eC (.str ("first" : Str))) (aCons (eSl (eVar 0) (oPart (eC (.int 1))) oNoP) aNil)))) sNil)
    (sSeq (sAsg (eCallF m__law_number [.inl 0] [] (aCons (eSl (eVar 0) (oPart (eC (.int 1))) (oPart (eC (.int 5)))) aNil)) (gNm 1))
    (sSeq (sIf (tVal (eOp (oEq false) (eOp oIx (eVar 0) (eC (.int 0))) (eC (.int 2)))) (sRet (eTup (aCons (eC (.str ("answer" : Str))) (aCons (eVar 1) (aCons (eSl (eVar 0) (oPart (eC (.int 5))) oNoP) aNil))))) sNil)
    (sSeq (sIf (tVal (eOp oGt (eOp oIx (eVar 0) (eC (.int 12))) (eC (.int 127)))) (sRet (eLst (aCons (eC (.str ("wrong" : Str))) (aCons (eC (.int 12)) aNil)))) sNil)
    (sRet (eTup (aCons (eC (.str ("sealed" : Str))) (aCons (eVar 1) (aCons (eCallF m__law_number [.inl 0] [] (aCons (eSl (eVar 0) (oPart (eC (.int 5))) (oPart (eC (.int 13)))) aNil)) (aCons (eSl (eVar 0) (oPart (eC (.int 13))) oNoP) aNil)))))))))))))
noncomputable def m__law_read : Fx := runB 2 b__law_read
theorem sc__law_read : FnScope N__law_read ["value"] (defScope (top 52)) := ⟨rfl, rfl, rfl, nd__law_read, rfl, by decide +kernel, by decide +kernel⟩
theorem sm__law_read (T : Txt P K mg) : SimSs P w K mg base { N := N__law_read, sc := defScope (top 52), k := 1 } (defBody (top 52)) b__law_read :=
  (simSs_cons (simS_if (simT_not (simT_val (simE_cal (q := ⟨1, [], [.inl 0], []⟩) rfl (ok__law_is_octets T) (.head _) (by decide) rfl (simC_pos (simA_cons (simE_var rfl (.inl rfl)) simA_nil (fun _ => rfl)) (aLen_cons aLen_nil) (fun _ => rfl) (fun _ _ => rfl))) (fun _ _ => rfl))) (simSs_one (simS_ret (simE_lst (simA_cons simE_str (simA_cons (simE_neg simE_int) simA_nil (fun _ => rfl)) (fun _ => rfl))))) simSs_nil)
    (simSs_cons (simS_if (simT_W (simW_or (simT_cmp (ok_eq rfl) (simE_callB (ok_len) rfl T.n_len rfl (simA_cons (simE_var rfl (.inl rfl)) simA_nil (fun _ => rfl)) (fun _ => rfl) (fun _ => rfl)) simE_int rfl) (simW_or1 (simT_cmp (ok_notin rfl) (simE_ix ok_ix (simE_var rfl (.inl rfl)) simE_int (fun _ _ => rfl)) (simE_lst (simA_cons simE_int (simA_cons simE_int (simA_cons simE_int simA_nil (fun _ => rfl)) (fun _ => rfl)) (fun _ => rfl))) rfl)))) (simSs_one (simS_ret (simE_lst (simA_cons simE_str (simA_cons simE_int simA_nil (fun _ => rfl)) (fun _ => rfl))))) simSs_nil)
    (simSs_cons (simS_if (simT_cmp ok_ltI (simE_callB (ok_len) rfl T.n_len rfl (simA_cons (simE_var rfl (.inl rfl)) simA_nil (fun _ => rfl)) (fun _ => rfl) (fun _ => rfl)) (simE_ix ok_ix (simE_lst (simA_cons simE_int (simA_cons simE_int (simA_cons simE_int (simA_cons simE_int simA_nil (fun _ => rfl)) (fun _ => rfl)) (fun _ => rfl)) (fun _ => rfl))) (simE_ix ok_ix (simE_var rfl (.inl rfl)) simE_int (fun _ _ => rfl)) (fun _ _ => rfl)) rfl) (simSs_one (simS_ret (simE_lst (simA_cons simE_str (simA_cons (simE_callB (ok_len) rfl T.n_len rfl (simA_cons (simE_var rfl (.inl rfl)) simA_nil (fun _ => rfl)) (fun _ => rfl) (fun _ => rfl)) simA_nil (fun _ => rfl)) (fun _ => rfl))))) simSs_nil)
    (simSs_cons (simS_if (simT_cmp (ok_eq rfl) (simE_ix ok_ix (simE_var rfl (.inl rfl)) simE_int (fun _ _ => rfl)) simE_int rfl) (simSs_one (simS_ret (simE_tup (simA_cons simE_str (simA_cons (simE_sl (simE_var rfl (.inl rfl)) (simO_some simE_int) simO_none) simA_nil (fun _ => rfl)) (fun _ => rfl))))) simSs_nil)
    (simSs_cons (simS_set nd__law_read rfl (.inl rfl) (.inl rfl) (simE_cal (q := ⟨1, [], [.inl 0], []⟩) rfl (ok__law_number T) (.head _) (by decide) rfl (simC_pos (simA_cons (simE_sl (simE_var rfl (.inl rfl)) (simO_some simE_int) (simO_some simE_int)) simA_nil (fun _ => rfl)) (aLen_cons aLen_nil) (fun _ => rfl) (fun _ _ => rfl))) (fun _ => rfl))
    (simSs_cons (simS_if (simT_cmp (ok_eq rfl) (simE_ix ok_ix (simE_var rfl (.inl rfl)) simE_int (fun _ _ => rfl)) simE_int rfl) (simSs_one (simS_ret (simE_tup (simA_cons simE_str (simA_cons (simE_var rfl (.inl rfl)) (simA_cons (simE_sl (simE_var rfl (.inl rfl)) (simO_some simE_int) simO_none) simA_nil (fun _ => rfl)) (fun _ => rfl)) (fun _ => rfl))))) simSs_nil)
    (simSs_cons (simS_if (simT_cmp ok_gtI (simE_ix ok_ix (simE_var rfl (.inl rfl)) simE_int (fun _ _ => rfl)) simE_int rfl) (simSs_one (simS_ret (simE_lst (simA_cons simE_str (simA_cons simE_int simA_nil (fun _ => rfl)) (fun _ => rfl))))) simSs_nil)
    (simSs_one (simS_ret (simE_tup (simA_cons simE_str (simA_cons (simE_var rfl (.inl rfl)) (simA_cons (simE_cal (q := ⟨1, [], [.inl 0], []⟩) rfl (ok__law_number T) (.head _) (by decide) rfl (simC_pos (simA_cons (simE_sl (simE_var rfl (.inl rfl)) (simO_some simE_int) (simO_some simE_int)) simA_nil (fun _ => rfl)) (aLen_cons aLen_nil) (fun _ => rfl) (fun _ _ => rfl))) (simA_cons (simE_sl (simE_var rfl (.inl rfl)) (simO_some simE_int) simO_none) simA_nil (fun _ => rfl)) (fun _ => rfl)) (fun _ => rfl)) (fun _ => rfl))))))))))))
theorem ok__law_read (T : Txt P K mg) : Cal P w K mg base 2 ("_law_read" : Str) [("value" : Str)] m__law_read [⟨1, [], [.inl 0], []⟩] := cal0 T.d__law_read sc__law_read (sm__law_read T) (ways_cons ⟨rfl, rfl, fun kV doc pm an cdv ct us ws hu hw => by match us, ws, hu, hw with | [u0], [], _, _ => rfl⟩ ways_nil)
/-! ### _law_told -/
abbrev N__law_told : List Str := ["value", "e"]
theorem nd__law_told : N__law_told.Nodup := by decide +kernel
noncomputable def b__law_told : Sx :=
  (sTry T_exm (sRet (eCallF m_read_datagram [.inl 0] [] (aCons (eVar 0) aNil))) [⟨("InvalidLetter" : Str), some 1, (sRet (eIf (tVal (eXis T_isx 1 ("TunnelError" : Str))) (eLst (aCons (eC (.str ("wrong" : Str))) (aCons (eXf' T_xf 1 ("at" : Str)) aNil))) (eLst (aCons (eC (.str ("other" : Str))) aNil))))⟩])
noncomputable def m__law_told : Fx := runB 2 b__law_told
theorem sc__law_told : FnScope N__law_told ["value"] (defScope (top 53)) := ⟨rfl, rfl, rfl, nd__law_told, rfl, by decide +kernel, by decide +kernel⟩
theorem sm__law_told (T : Txt P K mg) : SimSs P w K mg base { N := N__law_told, sc := defScope (top 53), k := 5 } (defBody (top 53)) b__law_told :=
  (simSs_one (simS_tryAsX T.exm T.c_InvalidLetter rfl rfl nd__law_told rfl rfl rfl (simSs_one (simS_ret (simE_cal (q := ⟨1, [], [.inl 0], []⟩) rfl (ok_read_datagram T) (.head _) (by decide) rfl (simC_pos (simA_cons (simE_var rfl (.inl rfl)) simA_nil (fun _ => rfl)) (aLen_cons aLen_nil) (fun _ => rfl) (fun _ _ => rfl))))) (fun ax cx dx => (simSs_one (simS_ret (simE_if (simT_val (simE_xisX (ξ := ⟨1, ax, cx, dx⟩) (n := "e") (t := "TunnelError") T.isx T.c_TunnelError T.n_isinstance rfl rfl (.inl rfl) rfl rfl) (fun _ _ => rfl)) (simE_lst (simA_cons simE_str (simA_cons (simE_xf (ξ := ⟨1, ax, cx, dx⟩) (n := "e") T.xf rfl rfl (.inl rfl)) simA_nil (fun _ => rfl)) (fun _ => rfl))) (simE_lst (simA_cons simE_str simA_nil (fun _ => rfl)))))))))
theorem ok__law_told (T : Txt P K mg) : Cal P w K mg base 6 ("_law_told" : Str) [("value" : Str)] m__law_told [⟨1, [], [.inl 0], []⟩] := cal0 T.d__law_told sc__law_told (sm__law_told T) (ways_cons ⟨rfl, rfl, fun kV doc pm an cdv ct us ws hu hw => by match us, ws, hu, hw with | [u0], [], _, _ => rfl⟩ ways_nil)
/-! ### big_octets_of -/
abbrev N_big_octets_of : List Str := ["number", "size"]
theorem nd_big_octets_of : N_big_octets_of.Nodup := by decide +kernel
noncomputable def b_big_octets_of : Sx :=
  (sRet (eRev (eCallF m_octets_of [.inl 0, .inl 1] [] (aCons (eVar 0) (aCons (eVar 1) aNil)))))
noncomputable def m_big_octets_of : Fx := runB 2 b_big_octets_of
theorem sc_big_octets_of : FnScope N_big_octets_of ["number", "size"] (defScope (top 15)) := ⟨rfl, rfl, rfl, nd_big_octets_of, rfl, by decide +kernel, by decide +kernel⟩
theorem sm_big_octets_of (T : Txt P K mg) : SimSs P w K mg base { N := N_big_octets_of, sc := defScope (top 15), k := 1 } (defBody (top 15)) b_big_octets_of :=
  (simSs_one (simS_ret (simE_rev (simE_cal (q := ⟨2, [], [.inl 0, .inl 1], []⟩) rfl (ok_octets_of T) (.head _) (by decide) rfl (simC_pos (simA_cons (simE_var rfl (.inl rfl)) (simA_cons (simE_var rfl (.inl rfl)) simA_nil (fun _ => rfl)) (fun _ => rfl)) (aLen_cons (aLen_cons aLen_nil)) (fun _ => rfl) (fun _ _ => rfl))))))
theorem ok_big_octets_of (T : Txt P K mg) : Cal P w K mg base 2 ("big_octets_of" : Str) [("number" : Str), ("size" : Str)] m_big_octets_of [⟨2, [], [.inl 0, .inl 1], []⟩] := cal0 T.d_big_octets_of sc_big_octets_of (sm_big_octets_of T) (ways_cons ⟨rfl, rfl, fun kV doc pm an cdv ct us ws hu hw => by match us, ws, hu, hw with | [u0, u1], [], _, _ => rfl⟩ ways_nil)
/-! ### stamp_octets -/
abbrev N_stamp_octets : List Str := ["stamp"]
theorem nd_stamp_octets : N_stamp_octets.Nodup := by decide +kernel
noncomputable def b_stamp_octets : Sx :=
  (sRet (eCallF m_big_octets_of [.inl 0, .inl 1] [] (aCons (eOp oAdd (eC (.int 4611686018427387904)) (eVar 0)) (aCons (eC (.int 8)) aNil))))
noncomputable def m_stamp_octets : Fx := runB 1 b_stamp_octets
theorem sc_stamp_octets : FnScope N_stamp_octets ["stamp"] (defScope (top 18)) := ⟨rfl, rfl, rfl, nd_stamp_octets, rfl, by decide +kernel, by decide +kernel⟩
theorem sm_stamp_octets (T : Txt P K mg) : SimSs P w K mg base { N := N_stamp_octets, sc := defScope (top 18), k := 2 } (defBody (top 18)) b_stamp_octets :=
  (simSs_one (simS_ret (simE_cal (q := ⟨2, [], [.inl 0, .inl 1], []⟩) rfl (ok_big_octets_of T) (.head _) (by decide) rfl (simC_pos (simA_cons (simE_op ok_add (simE_gint rfl T.g_LABEL) (simE_var rfl (.inl rfl))) (simA_cons simE_int simA_nil (fun _ => rfl)) (fun _ => rfl)) (aLen_cons (aLen_cons aLen_nil)) (fun _ => rfl) (fun _ _ => rfl)))))
theorem ok_stamp_octets (T : Txt P K mg) : Cal P w K mg base 3 ("stamp_octets" : Str) [("stamp" : Str)] m_stamp_octets [⟨1, [], [.inl 0], []⟩] := cal0 T.d_stamp_octets sc_stamp_octets (sm_stamp_octets T) (ways_cons ⟨rfl, rfl, fun kV doc pm an cdv ct us ws hu hw => by match us, ws, hu, hw with | [u0], [], _, _ => rfl⟩ ways_nil)
/-! ### said_octets -/
abbrev N_said_octets : List Str := ["said"]
theorem nd_said_octets : N_said_octets.Nodup := by decide +kernel
noncomputable def b_said_octets : Sx :=
  (sRet (eIf (tVal (eOp (oIsN false) (eVar 0) (eC .non))) (eC (.kt [.int 0, .int 0, .int 0, .int 0, .int 0, .int 0, .int 0, .int 0, .int 2])) (eOp oAdd (eCallF m_stamp_octets [.inl 0] [] (aCons (eOp oIx (eVar 0) (eC (.int 0))) aNil)) (eTup (aCons (eOp oIx (eVar 0) (eC (.int 1))) aNil)))))
noncomputable def m_said_octets : Fx := runB 1 b_said_octets
theorem sc_said_octets : FnScope N_said_octets ["said"] (defScope (top 36)) := ⟨rfl, rfl, rfl, nd_said_octets, rfl, by decide +kernel, by decide +kernel⟩
theorem sm_said_octets (T : Txt P K mg) : SimSs P w K mg base { N := N_said_octets, sc := defScope (top 36), k := 3 } (defBody (top 36)) b_said_octets :=
  (simSs_one (simS_ret (simE_if (simT_cmp ok_is (simE_var rfl (.inl rfl)) simE_non rfl) (simE_gtup rfl T.g_NO_NAME) (simE_op ok_add (simE_cal (q := ⟨1, [], [.inl 0], []⟩) rfl (ok_stamp_octets T) (.head _) (by decide) rfl (simC_pos (simA_cons (simE_ix ok_ix (simE_var rfl (.inl rfl)) simE_int (fun _ _ => rfl)) simA_nil (fun _ => rfl)) (aLen_cons aLen_nil) (fun _ => rfl) (fun _ _ => rfl))) (simE_tup (simA_cons (simE_ix ok_ix (simE_var rfl (.inl rfl)) simE_int (fun _ _ => rfl)) simA_nil (fun _ => rfl)))))))
theorem ok_said_octets (T : Txt P K mg) : Cal P w K mg base 4 ("said_octets" : Str) [("said" : Str)] m_said_octets [⟨1, [], [.inl 0], []⟩, ⟨0, [("said" : Str)], [.inl 0], []⟩] := cal0 T.d_said_octets sc_said_octets (sm_said_octets T) (ways_cons ⟨rfl, rfl, fun kV doc pm an cdv ct us ws hu hw => by match us, ws, hu, hw with | [u0], [], _, _ => rfl⟩ (ways_cons ⟨rfl, rfl, fun kV doc pm an cdv ct us ws hu hw => by match us, ws, hu, hw with | [], [w0], _, _ => rfl⟩ ways_nil))
/-! ### first_payload -/
abbrev N_first_payload : List Str := ["number", "stamp", "said"]
theorem nd_first_payload : N_first_payload.Nodup := by decide +kernel
noncomputable def b_first_payload : Sx :=
  (sRet (eOp oAdd (eOp oAdd (eCallF m_octets_of [.inl 0, .inl 1] [] (aCons (eVar 0) (aCons (eC (.int 4)) aNil))) (eCallF m_stamp_octets [.inl 0] [] (aCons (eVar 1) aNil))) (eCallF m_said_octets [.inl 0] [] (aCons (eVar 2) aNil))))
noncomputable def m_first_payload : Fx := runB 3 b_first_payload
theorem sc_first_payload : FnScope N_first_payload ["number", "stamp", "said"] (defScope (top 38)) := ⟨rfl, rfl, rfl, nd_first_payload, rfl, by decide +kernel, by decide +kernel⟩
theorem sm_first_payload (T : Txt P K mg) : SimSs P w K mg base { N := N_first_payload, sc := defScope (top 38), k := 4 } (defBody (top 38)) b_first_payload :=
  (simSs_one (simS_ret (simE_op ok_add (simE_op ok_add (simE_cal (q := ⟨2, [], [.inl 0, .inl 1], []⟩) rfl (ok_octets_of T) (.head _) (by decide) rfl (simC_pos (simA_cons (simE_var rfl (.inl rfl)) (simA_cons simE_int simA_nil (fun _ => rfl)) (fun _ => rfl)) (aLen_cons (aLen_cons aLen_nil)) (fun _ => rfl) (fun _ _ => rfl))) (simE_cal (q := ⟨1, [], [.inl 0], []⟩) rfl (ok_stamp_octets T) (.head _) (by decide) rfl (simC_pos (simA_cons (simE_var rfl (.inl rfl)) simA_nil (fun _ => rfl)) (aLen_cons aLen_nil) (fun _ => rfl) (fun _ _ => rfl)))) (simE_cal (q := ⟨1, [], [.inl 0], []⟩) rfl (ok_said_octets T) (.head _) (by decide) rfl (simC_pos (simA_cons (simE_var rfl (.inl rfl)) simA_nil (fun _ => rfl)) (aLen_cons aLen_nil) (fun _ => rfl) (fun _ _ => rfl))))))
theorem ok_first_payload (T : Txt P K mg) : Cal P w K mg base 5 ("first_payload" : Str) [("number" : Str), ("stamp" : Str), ("said" : Str)] m_first_payload [⟨3, [], [.inl 0, .inl 1, .inl 2], []⟩, ⟨0, [("said" : Str), ("stamp" : Str), ("number" : Str)], [.inl 2, .inl 1, .inl 0], []⟩] := cal0 T.d_first_payload sc_first_payload (sm_first_payload T) (ways_cons ⟨rfl, rfl, fun kV doc pm an cdv ct us ws hu hw => by match us, ws, hu, hw with | [u0, u1, u2], [], _, _ => rfl⟩ (ways_cons ⟨rfl, rfl, fun kV doc pm an cdv ct us ws hu hw => by match us, ws, hu, hw with | [], [w0, w1, w2], _, _ => rfl⟩ ways_nil))
/-! ### need_octets -/
abbrev N_need_octets : List Str := ["value", "size", "at"]
theorem nd_need_octets : N_need_octets.Nodup := by decide +kernel
noncomputable def b_need_octets : Sx :=
  (sSeq (sIf (tNot' (tVal (eCall (two' oIsi) (aCons (eVar 0) (aCons (eC (.ty "tuple")) aNil))))) (sRaise ("InvalidOctets" : Str) ("at" : Str) (eUn oNeg (eC (.int 1)))) sNil)
    (sSeq (sAsg (eCallF m_wrong_place [.inl 0, .inl 1] [] (aCons (eVar 0) (aCons (eVar 1) aNil))) (gNm 2))
    (sIf (tVal (eOp (oIsN true) (eVar 2) (eC .non))) (sRaise ("InvalidOctets" : Str) ("at" : Str) (eVar 2)) sNil)))
noncomputable def m_need_octets : Fx := runB 3 b_need_octets
theorem sc_need_octets : FnScope N_need_octets ["value", "size"] (defScope (top 11)) := ⟨rfl, rfl, rfl, nd_need_octets, rfl, by decide +kernel, by decide +kernel⟩
theorem sm_need_octets (T : Txt P K mg) : SimSs P w K mg base { N := N_need_octets, sc := defScope (top 11), k := 3 } (defBody (top 11)) b_need_octets :=
  (simSs_cons (simS_if (simT_not (simT_val (simE_callB (ok_isi) rfl T.n_isinstance rfl (simA_cons (simE_var rfl (.inl rfl)) (simA_cons (simE_ty rfl T.n_tuple rfl) simA_nil (fun _ => rfl)) (fun _ => rfl)) (fun _ => rfl) (fun _ => rfl)) (fun _ _ => rfl))) (simSs_one (simS_raiseX rfl T.x_InvalidOctets rfl (simE_neg simE_int) (fun _ => rfl))) simSs_nil)
    (simSs_cons (simS_set nd_need_octets rfl (.inl rfl) (.inl rfl) (simE_cal (q := ⟨2, [], [.inl 0, .inl 1], []⟩) rfl (ok_wrong_place T) (.head _) (by decide) rfl (simC_pos (simA_cons (simE_var rfl (.inl rfl)) (simA_cons (simE_var rfl (.inl rfl)) simA_nil (fun _ => rfl)) (fun _ => rfl)) (aLen_cons (aLen_cons aLen_nil)) (fun _ => rfl) (fun _ _ => rfl))) (fun _ => rfl))
    (simSs_one (simS_if (simT_cmp ok_isnot (simE_var rfl (.inl rfl)) simE_non rfl) (simSs_one (simS_raiseX rfl T.x_InvalidOctets rfl (simE_var rfl (.inl rfl)) (fun _ => rfl))) simSs_nil))))
theorem ok_need_octets (T : Txt P K mg) : Cal P w K mg base 4 ("need_octets" : Str) [("value" : Str), ("size" : Str)] m_need_octets [⟨2, [], [.inl 0, .inl 1], dv_need_octets⟩] := cal1 T.d_need_octets (by simp) (fun ρ H => by simp [RVs, RV]) sc_need_octets (sm_need_octets T) (ways_cons ⟨⟨rfl, fun T kV doc pm an cdv ct us ws its hu hw hi => by match us, ws, its, hu, hw, hi with | [u0, u1], [], [i0], _, _, _ => exact ⟨_, rfl, rfl⟩⟩, rfl⟩ ways_nil)
/-! ### big_number_of -/
abbrev N_big_number_of : List Str := ["octets"]
theorem nd_big_number_of : N_big_number_of.Nodup := by decide +kernel
noncomputable def b_big_number_of : Sx :=
  (sRet (eCallF m_number_of [.inl 0] [] (aCons (eRev (eVar 0)) aNil)))
noncomputable def m_big_number_of : Fx := runB 1 b_big_number_of
theorem sc_big_number_of : FnScope N_big_number_of ["octets"] (defScope (top 14)) := ⟨rfl, rfl, rfl, nd_big_number_of, rfl, by decide +kernel, by decide +kernel⟩
theorem sm_big_number_of (T : Txt P K mg) : SimSs P w K mg base { N := N_big_number_of, sc := defScope (top 14), k := 1 } (defBody (top 14)) b_big_number_of :=
  (simSs_one (simS_ret (simE_cal (q := ⟨1, [], [.inl 0], []⟩) rfl (ok_number_of T) (.head _) (by decide) rfl (simC_pos (simA_cons (simE_rev (simE_var rfl (.inl rfl))) simA_nil (fun _ => rfl)) (aLen_cons aLen_nil) (fun _ => rfl) (fun _ _ => rfl)))))
theorem ok_big_number_of (T : Txt P K mg) : Cal P w K mg base 2 ("big_number_of" : Str) [("octets" : Str)] m_big_number_of [⟨1, [], [.inl 0], []⟩] := cal0 T.d_big_number_of sc_big_number_of (sm_big_number_of T) (ways_cons ⟨rfl, rfl, fun kV doc pm an cdv ct us ws hu hw => by match us, ws, hu, hw with | [u0], [], _, _ => rfl⟩ ways_nil)
/-! ### read_stamp -/
abbrev N_read_stamp : List Str := ["value"]
theorem nd_read_stamp : N_read_stamp.Nodup := by decide +kernel
noncomputable def b_read_stamp : Sx :=
  (sSeq (sDrop (eCallF m_need_octets [.inl 0, .inl 1] dv_need_octets (aCons (eVar 0) (aCons (eC (.int 8)) aNil))))
    (sSeq (sIf (tNot' (tVal (eChain oLe oLt (eC (.int 64)) (eOp oIx (eVar 0) (eC (.int 0))) (eC (.int 128))))) (sRaise ("InvalidOctets" : Str) ("at" : Str) (eC (.int 0))) sNil)
    (sRet (eOp oSub (eCallF m_big_number_of [.inl 0] [] (aCons (eVar 0) aNil)) (eC (.int 4611686018427387904))))))
noncomputable def m_read_stamp : Fx := runB 1 b_read_stamp
theorem sc_read_stamp : FnScope N_read_stamp ["value"] (defScope (top 19)) := ⟨rfl, rfl, rfl, nd_read_stamp, rfl, by decide +kernel, by decide +kernel⟩
theorem sm_read_stamp (T : Txt P K mg) : SimSs P w K mg base { N := N_read_stamp, sc := defScope (top 19), k := 4 } (defBody (top 19)) b_read_stamp :=
  (simSs_cons (simS_expr (simE_cal (q := ⟨2, [], [.inl 0, .inl 1], dv_need_octets⟩) rfl (ok_need_octets T) (.head _) (by decide) rfl (simC_pos (simA_cons (simE_var rfl (.inl rfl)) (simA_cons simE_int simA_nil (fun _ => rfl)) (fun _ => rfl)) (aLen_cons (aLen_cons aLen_nil)) (fun _ => rfl) (fun _ _ => rfl))) (fun _ => rfl))
    (simSs_cons (simS_if (simT_not (simT_chain ok_leI ok_ltI simE_int (simE_ix ok_ix (simE_var rfl (.inl rfl)) simE_int (fun _ _ => rfl)) simE_int rfl)) (simSs_one (simS_raiseX rfl T.x_InvalidOctets rfl simE_int (fun _ => rfl))) simSs_nil)
    (simSs_one (simS_ret (simE_op ok_sub (simE_cal (q := ⟨1, [], [.inl 0], []⟩) rfl (ok_big_number_of T) (.head _) (by decide) rfl (simC_pos (simA_cons (simE_var rfl (.inl rfl)) simA_nil (fun _ => rfl)) (aLen_cons aLen_nil) (fun _ => rfl) (fun _ _ => rfl))) (simE_gint rfl T.g_LABEL))))))
theorem ok_read_stamp (T : Txt P K mg) : Cal P w K mg base 5 ("read_stamp" : Str) [("value" : Str)] m_read_stamp [⟨1, [], [.inl 0], []⟩] := cal0 T.d_read_stamp sc_read_stamp (sm_read_stamp T) (ways_cons ⟨rfl, rfl, fun kV doc pm an cdv ct us ws hu hw => by match us, ws, hu, hw with | [u0], [], _, _ => rfl⟩ ways_nil)
/-! ### read_said -/
abbrev N_read_said : List Str := ["octets", "stamp"]
theorem nd_read_said : N_read_said.Nodup := by decide +kernel
noncomputable def b_read_said : Sx :=
  (sSeq (sIf (tVal (eOp (oEq false) (eVar 0) (eC (.kt [.int 0, .int 0, .int 0, .int 0, .int 0, .int 0, .int 0, .int 0, .int 2])))) (sRet (eTup (aCons (eC .non) aNil))) sNil)
    (sSeq (sTry T_exm (sAsg (eCallF m_read_stamp [.inl 0] [] (aCons (eSl (eVar 0) oNoP (oPart (eC (.int 8)))) aNil)) (gNm 1)) [⟨("InvalidOctets" : Str), none, (sRet (eTup aNil))⟩])
    (sRet (eIf (tVal (eOp oLt (eOp oIx (eVar 0) (eC (.int 8))) (eC (.int 2)))) (eTup (aCons (eTup (aCons (eVar 1) (aCons (eOp oIx (eVar 0) (eC (.int 8))) aNil))) aNil)) (eTup aNil)))))
noncomputable def m_read_said : Fx := runB 2 b_read_said
theorem sc_read_said : FnScope N_read_said ["octets"] (defScope (top 37)) := ⟨rfl, rfl, rfl, nd_read_said, rfl, by decide +kernel, by decide +kernel⟩
theorem sm_read_said (T : Txt P K mg) : SimSs P w K mg base { N := N_read_said, sc := defScope (top 37), k := 5 } (defBody (top 37)) b_read_said :=
  (simSs_cons (simS_if (simT_cmp (ok_eq rfl) (simE_var rfl (.inl rfl)) (simE_gtup rfl T.g_NO_NAME) rfl) (simSs_one (simS_ret (simE_tup (simA_cons simE_non simA_nil (fun _ => rfl))))) simSs_nil)
    (simSs_cons (simS_try T.exm rfl rfl (simSs_one (simS_set nd_read_said rfl (.inl rfl) (.inl rfl) (simE_cal (q := ⟨1, [], [.inl 0], []⟩) rfl (ok_read_stamp T) (.head _) (by decide) rfl (simC_pos (simA_cons (simE_sl (simE_var rfl (.inl rfl)) simO_none (simO_some simE_int)) simA_nil (fun _ => rfl)) (aLen_cons aLen_nil) (fun _ => rfl) (fun _ _ => rfl))) (fun _ => rfl))) (simHs_cons T.c_InvalidOctets rfl (simSs_one (simS_ret (simE_tup simA_nil))) .nil))
    (simSs_one (simS_ret (simE_if (simT_cmp ok_ltI (simE_ix ok_ix (simE_var rfl (.inl rfl)) simE_int (fun _ _ => rfl)) simE_int rfl) (simE_tup (simA_cons (simE_tup (simA_cons (simE_var rfl (.inl rfl)) (simA_cons (simE_ix ok_ix (simE_var rfl (.inl rfl)) simE_int (fun _ _ => rfl)) simA_nil (fun _ => rfl)) (fun _ => rfl))) simA_nil (fun _ => rfl))) (simE_tup simA_nil))))))
theorem ok_read_said (T : Txt P K mg) : Cal P w K mg base 6 ("read_said" : Str) [("octets" : Str)] m_read_said [⟨1, [], [.inl 0], []⟩] := cal0 T.d_read_said sc_read_said (sm_read_said T) (ways_cons ⟨rfl, rfl, fun kV doc pm an cdv ct us ws hu hw => by match us, ws, hu, hw with | [u0], [], _, _ => rfl⟩ ways_nil)
/-! ### read_first_payload -/
abbrev N_read_first_payload : List Str := ["octets", "told", "stamp"]
theorem nd_read_first_payload : N_read_first_payload.Nodup := by decide +kernel
noncomputable def b_read_first_payload : Sx :=
  (sSeq (sIf (tVal (eOp (oEq true) (eCall (one' oLen) (aCons (eVar 0) aNil)) (eC (.int 21)))) (sRet (eC .non)) sNil)
    (sSeq (sAsg (eCallF m_read_said [.inl 0] [] (aCons (eSl (eVar 0) (oPart (eC (.int 12))) oNoP) aNil)) (gNm 1))
    (sSeq (sTry T_exm (sAsg (eCallF m_read_stamp [.inl 0] [] (aCons (eSl (eVar 0) (oPart (eC (.int 4))) (oPart (eC (.int 12)))) aNil)) (gNm 2)) [⟨("InvalidOctets" : Str), none, (sRet (eC .non))⟩])
    (sRet (eIf (tVal (eOp (oEq true) (eVar 1) (eTup aNil))) (eTup (aCons (eCallF m_number_of [.inl 0] [] (aCons (eSl (eVar 0) oNoP (oPart (eC (.int 4)))) aNil)) (aCons (eVar 2) (aCons (eOp oIx (eVar 1) (eC (.int 0))) aNil)))) (eC .non))))))
noncomputable def m_read_first_payload : Fx := runB 3 b_read_first_payload
theorem sc_read_first_payload : FnScope N_read_first_payload ["octets"] (defScope (top 39)) := ⟨rfl, rfl, rfl, nd_read_first_payload, rfl, by decide +kernel, by decide +kernel⟩
theorem sm_read_first_payload (T : Txt P K mg) : SimSs P w K mg base { N := N_read_first_payload, sc := defScope (top 39), k := 6 } (defBody (top 39)) b_read_first_payload :=
  (simSs_cons (simS_if (simT_cmp (ok_ne rfl) (simE_callB (ok_len) rfl T.n_len rfl (simA_cons (simE_var rfl (.inl rfl)) simA_nil (fun _ => rfl)) (fun _ => rfl) (fun _ => rfl)) (simE_gint rfl T.g_FIRST_PAYLOAD) rfl) (simSs_one (simS_ret simE_non)) simSs_nil)
    (simSs_cons (simS_set nd_read_first_payload rfl (.inl rfl) (.inl rfl) (simE_cal (q := ⟨1, [], [.inl 0], []⟩) rfl (ok_read_said T) (.head _) (by decide) rfl (simC_pos (simA_cons (simE_sl (simE_var rfl (.inl rfl)) (simO_some simE_int) simO_none) simA_nil (fun _ => rfl)) (aLen_cons aLen_nil) (fun _ => rfl) (fun _ _ => rfl))) (fun _ => rfl))
    (simSs_cons (simS_try T.exm rfl rfl (simSs_one (simS_set nd_read_first_payload rfl (.inl rfl) (.inl rfl) (simE_cal (q := ⟨1, [], [.inl 0], []⟩) rfl (ok_read_stamp T) (.head _) (by decide) rfl (simC_pos (simA_cons (simE_sl (simE_var rfl (.inl rfl)) (simO_some simE_int) (simO_some simE_int)) simA_nil (fun _ => rfl)) (aLen_cons aLen_nil) (fun _ => rfl) (fun _ _ => rfl))) (fun _ => rfl))) (simHs_cons T.c_InvalidOctets rfl (simSs_one (simS_ret simE_non)) .nil))
    (simSs_one (simS_ret (simE_if (simT_cmp (ok_ne rfl) (simE_var rfl (.inl rfl)) (simE_tup simA_nil) rfl) (simE_tup (simA_cons (simE_cal (q := ⟨1, [], [.inl 0], []⟩) rfl (ok_number_of T) (.head _) (by decide) rfl (simC_pos (simA_cons (simE_sl (simE_var rfl (.inl rfl)) simO_none (simO_some simE_int)) simA_nil (fun _ => rfl)) (aLen_cons aLen_nil) (fun _ => rfl) (fun _ _ => rfl))) (simA_cons (simE_var rfl (.inl rfl)) (simA_cons (simE_ix ok_ix (simE_var rfl (.inl rfl)) simE_int (fun _ _ => rfl)) simA_nil (fun _ => rfl)) (fun _ => rfl)) (fun _ => rfl))) simE_non))))))
theorem ok_read_first_payload (T : Txt P K mg) : Cal P w K mg base 7 ("read_first_payload" : Str) [("octets" : Str)] m_read_first_payload [⟨1, [], [.inl 0], []⟩, ⟨0, [("octets" : Str)], [.inl 0], []⟩] := cal0 T.d_read_first_payload sc_read_first_payload (sm_read_first_payload T) (ways_cons ⟨rfl, rfl, fun kV doc pm an cdv ct us ws hu hw => by match us, ws, hu, hw with | [u0], [], _, _ => rfl⟩ (ways_cons ⟨rfl, rfl, fun kV doc pm an cdv ct us ws hu hw => by match us, ws, hu, hw with | [], [w0], _, _ => rfl⟩ ways_nil))
/-! ### answer_payload -/
abbrev N_answer_payload : List Str := ["number", "said"]
theorem nd_answer_payload : N_answer_payload.Nodup := by decide +kernel
noncomputable def b_answer_payload : Sx :=
  (sRet (eOp oAdd (eCallF m_octets_of [.inl 0, .inl 1] [] (aCons (eVar 0) (aCons (eC (.int 4)) aNil))) (eCallF m_said_octets [.inl 0] [] (aCons (eVar 1) aNil))))
noncomputable def m_answer_payload : Fx := runB 2 b_answer_payload
theorem sc_answer_payload : FnScope N_answer_payload ["number", "said"] (defScope (top 40)) := ⟨rfl, rfl, rfl, nd_answer_payload, rfl, by decide +kernel, by decide +kernel⟩
theorem sm_answer_payload (T : Txt P K mg) : SimSs P w K mg base { N := N_answer_payload, sc := defScope (top 40), k := 4 } (defBody (top 40)) b_answer_payload :=
  (simSs_one (simS_ret (simE_op ok_add (simE_cal (q := ⟨2, [], [.inl 0, .inl 1], []⟩) rfl (ok_octets_of T) (.head _) (by decide) rfl (simC_pos (simA_cons (simE_var rfl (.inl rfl)) (simA_cons simE_int simA_nil (fun _ => rfl)) (fun _ => rfl)) (aLen_cons (aLen_cons aLen_nil)) (fun _ => rfl) (fun _ _ => rfl))) (simE_cal (q := ⟨1, [], [.inl 0], []⟩) rfl (ok_said_octets T) (.head _) (by decide) rfl (simC_pos (simA_cons (simE_var rfl (.inl rfl)) simA_nil (fun _ => rfl)) (aLen_cons aLen_nil) (fun _ => rfl) (fun _ _ => rfl))))))
theorem ok_answer_payload (T : Txt P K mg) : Cal P w K mg base 5 ("answer_payload" : Str) [("number" : Str), ("said" : Str)] m_answer_payload [⟨0, [("said" : Str), ("number" : Str)], [.inl 1, .inl 0], []⟩] := cal0 T.d_answer_payload sc_answer_payload (sm_answer_payload T) (ways_cons ⟨rfl, rfl, fun kV doc pm an cdv ct us ws hu hw => by match us, ws, hu, hw with | [], [w0, w1], _, _ => rfl⟩ ways_nil)
/-! ### read_answer_payload -/
abbrev N_read_answer_payload : List Str := ["octets", "told"]
theorem nd_read_answer_payload : N_read_answer_payload.Nodup := by decide +kernel
noncomputable def b_read_answer_payload : Sx :=
  (sSeq (sIf (tVal (eOp (oEq true) (eCall (one' oLen) (aCons (eVar 0) aNil)) (eC (.int 13)))) (sRet (eC .non)) sNil)
    (sSeq (sAsg (eCallF m_read_said [.inl 0] [] (aCons (eSl (eVar 0) (oPart (eC (.int 4))) oNoP) aNil)) (gNm 1))
    (sRet (eIf (tVal (eOp (oEq true) (eVar 1) (eTup aNil))) (eTup (aCons (eCallF m_number_of [.inl 0] [] (aCons (eSl (eVar 0) oNoP (oPart (eC (.int 4)))) aNil)) (aCons (eOp oIx (eVar 1) (eC (.int 0))) aNil))) (eC .non)))))
noncomputable def m_read_answer_payload : Fx := runB 2 b_read_answer_payload
theorem sc_read_answer_payload : FnScope N_read_answer_payload ["octets"] (defScope (top 41)) := ⟨rfl, rfl, rfl, nd_read_answer_payload, rfl, by decide +kernel, by decide +kernel⟩
theorem sm_read_answer_payload (T : Txt P K mg) : SimSs P w K mg base { N := N_read_answer_payload, sc := defScope (top 41), k := 6 } (defBody (top 41)) b_read_answer_payload :=
  (simSs_cons (simS_if (simT_cmp (ok_ne rfl) (simE_callB (ok_len) rfl T.n_len rfl (simA_cons (simE_var rfl (.inl rfl)) simA_nil (fun _ => rfl)) (fun _ => rfl) (fun _ => rfl)) (simE_gint rfl T.g_ANSWER_PAYLOAD) rfl) (simSs_one (simS_ret simE_non)) simSs_nil)
    (simSs_cons (simS_set nd_read_answer_payload rfl (.inl rfl) (.inl rfl) (simE_cal (q := ⟨1, [], [.inl 0], []⟩) rfl (ok_read_said T) (.head _) (by decide) rfl (simC_pos (simA_cons (simE_sl (simE_var rfl (.inl rfl)) (simO_some simE_int) simO_none) simA_nil (fun _ => rfl)) (aLen_cons aLen_nil) (fun _ => rfl) (fun _ _ => rfl))) (fun _ => rfl))
    (simSs_one (simS_ret (simE_if (simT_cmp (ok_ne rfl) (simE_var rfl (.inl rfl)) (simE_tup simA_nil) rfl) (simE_tup (simA_cons (simE_cal (q := ⟨1, [], [.inl 0], []⟩) rfl (ok_number_of T) (.head _) (by decide) rfl (simC_pos (simA_cons (simE_sl (simE_var rfl (.inl rfl)) simO_none (simO_some simE_int)) simA_nil (fun _ => rfl)) (aLen_cons aLen_nil) (fun _ => rfl) (fun _ _ => rfl))) (simA_cons (simE_ix ok_ix (simE_var rfl (.inl rfl)) simE_int (fun _ _ => rfl)) simA_nil (fun _ => rfl)) (fun _ => rfl))) simE_non)))))
theorem ok_read_answer_payload (T : Txt P K mg) : Cal P w K mg base 7 ("read_answer_payload" : Str) [("octets" : Str)] m_read_answer_payload [⟨1, [], [.inl 0], []⟩, ⟨0, [("octets" : Str)], [.inl 0], []⟩] := cal0 T.d_read_answer_payload sc_read_answer_payload (sm_read_answer_payload T) (ways_cons ⟨rfl, rfl, fun kV doc pm an cdv ct us ws hu hw => by match us, ws, hu, hw with | [u0], [], _, _ => rfl⟩ (ways_cons ⟨rfl, rfl, fun kV doc pm an cdv ct us ws hu hw => by match us, ws, hu, hw with | [], [w0], _, _ => rfl⟩ ways_nil))
/-! ### _law_high -/
abbrev N__law_high : List Str := ["number", "size"]
theorem nd__law_high : N__law_high.Nodup := by decide +kernel
noncomputable def b__law_high : Sx :=
  (sRet (eRev (eCallF m__law_low [.inl 0, .inl 1] [] (aCons (eVar 0) (aCons (eVar 1) aNil)))))
noncomputable def m__law_high : Fx := runB 2 b__law_high
theorem sc__law_high : FnScope N__law_high ["number", "size"] (defScope (top 48)) := ⟨rfl, rfl, rfl, nd__law_high, rfl, by decide +kernel, by decide +kernel⟩
theorem sm__law_high (T : Txt P K mg) : SimSs P w K mg base { N := N__law_high, sc := defScope (top 48), k := 1 } (defBody (top 48)) b__law_high :=
  (simSs_one (simS_ret (simE_rev (simE_cal (q := ⟨2, [], [.inl 0, .inl 1], []⟩) rfl (ok__law_low T) (.head _) (by decide) rfl (simC_pos (simA_cons (simE_var rfl (.inl rfl)) (simA_cons (simE_var rfl (.inl rfl)) simA_nil (fun _ => rfl)) (fun _ => rfl)) (aLen_cons (aLen_cons aLen_nil)) (fun _ => rfl) (fun _ _ => rfl))))))
theorem ok__law_high (T : Txt P K mg) : Cal P w K mg base 2 ("_law_high" : Str) [("number" : Str), ("size" : Str)] m__law_high [⟨2, [], [.inl 0, .inl 1], []⟩] := cal0 T.d__law_high sc__law_high (sm__law_high T) (ways_cons ⟨rfl, rfl, fun kV doc pm an cdv ct us ws hu hw => by match us, ws, hu, hw with | [u0, u1], [], _, _ => rfl⟩ ways_nil)
/-! ### _law_name -/
abbrev N__law_name : List Str := ["deal", "stamp"]
theorem nd__law_name : N__law_name.Nodup := by decide +kernel
noncomputable def b__law_name : Sx :=
  (sSeq (sAsg (eCallF m__law_of [.inl 0, .inl 1] [] (aCons (eVar 0) (aCons (eLst (aCons (eC (.int 0)) (aCons (eC (.int 1)) (aCons (eOp oSub (eOp oPow (eC (.int 2)) (eC (.int 62))) (eC (.int 1))) (aCons (eCallF m__law_any [.inl 0, .inl 1] [] (aCons (eVar 0) (aCons (eC (.int 300)) aNil))) (aCons (eCallF m__law_any [.inl 0, .inl 1] [] (aCons (eVar 0) (aCons (eOp oPow (eC (.int 2)) (eC (.int 62))) aNil))) aNil)))))) aNil))) (gNm 1))
    (sRet (eCallF m__law_of [.inl 0, .inl 1] [] (aCons (eVar 0) (aCons (eLst (aCons (eTup (aCons (eVar 1) (aCons (eC (.int 0)) aNil))) (aCons (eTup (aCons (eVar 1) (aCons (eC (.int 1)) aNil))) (aCons (eC .non) aNil)))) aNil)))))
noncomputable def m__law_name : Fx := runB 2 b__law_name
theorem sc__law_name : FnScope N__law_name ["deal"] (defScope (top 54)) := ⟨rfl, rfl, rfl, nd__law_name, rfl, by decide +kernel, by decide +kernel⟩
theorem sm__law_name (T : Txt P K mg) : SimSs P w K mg base { N := N__law_name, sc := defScope (top 54), k := 2 } (defBody (top 54)) b__law_name :=
  (simSs_cons (simS_set nd__law_name rfl (.inl rfl) (.inl rfl) (simE_cal (q := ⟨2, [], [.inl 0, .inl 1], []⟩) rfl (ok__law_of T) (.head _) (by decide) rfl (simC_pos (simA_cons (simE_var rfl (.inl rfl)) (simA_cons (simE_lst (simA_cons simE_int (simA_cons simE_int (simA_cons (simE_op ok_sub (simE_op ok_pow simE_int simE_int) simE_int) (simA_cons (simE_cal (q := ⟨2, [], [.inl 0, .inl 1], []⟩) rfl (ok__law_any T) (.head _) (by decide) rfl (simC_pos (simA_cons (simE_var rfl (.inl rfl)) (simA_cons simE_int simA_nil (fun _ => rfl)) (fun _ => rfl)) (aLen_cons (aLen_cons aLen_nil)) (fun _ => rfl) (fun _ _ => rfl))) (simA_cons (simE_cal (q := ⟨2, [], [.inl 0, .inl 1], []⟩) rfl (ok__law_any T) (.head _) (by decide) rfl (simC_pos (simA_cons (simE_var rfl (.inl rfl)) (simA_cons (simE_op ok_pow simE_int simE_int) simA_nil (fun _ => rfl)) (fun _ => rfl)) (aLen_cons (aLen_cons aLen_nil)) (fun _ => rfl) (fun _ _ => rfl))) simA_nil (fun _ => rfl)) (fun _ => rfl)) (fun _ => rfl)) (fun _ => rfl)) (fun _ => rfl))) simA_nil (fun _ => rfl)) (fun _ => rfl)) (aLen_cons (aLen_cons aLen_nil)) (fun _ => rfl) (fun _ _ => rfl))) (fun _ => rfl))
    (simSs_one (simS_ret (simE_cal (q := ⟨2, [], [.inl 0, .inl 1], []⟩) rfl (ok__law_of T) (.head _) (by decide) rfl (simC_pos (simA_cons (simE_var rfl (.inl rfl)) (simA_cons (simE_lst (simA_cons (simE_tup (simA_cons (simE_var rfl (.inl rfl)) (simA_cons simE_int simA_nil (fun _ => rfl)) (fun _ => rfl))) (simA_cons (simE_tup (simA_cons (simE_var rfl (.inl rfl)) (simA_cons simE_int simA_nil (fun _ => rfl)) (fun _ => rfl))) (simA_cons simE_non simA_nil (fun _ => rfl)) (fun _ => rfl)) (fun _ => rfl))) simA_nil (fun _ => rfl)) (fun _ => rfl)) (aLen_cons (aLen_cons aLen_nil)) (fun _ => rfl) (fun _ _ => rfl))))))
theorem ok__law_name (T : Txt P K mg) : Cal P w K mg base 3 ("_law_name" : Str) [("deal" : Str)] m__law_name [⟨1, [], [.inl 0], []⟩] := cal0 T.d__law_name sc__law_name (sm__law_name T) (ways_cons ⟨rfl, rfl, fun kV doc pm an cdv ct us ws hu hw => by match us, ws, hu, hw with | [u0], [], _, _ => rfl⟩ ways_nil)
/-! ### _law_said -/
abbrev N__law_said : List Str := ["name"]
theorem nd__law_said : N__law_said.Nodup := by decide +kernel
noncomputable def b__law_said : Sx :=
  (sRet (eIf (tVal (eOp (oIsN false) (eVar 0) (eC .non))) (eTup (aCons (eC (.int 0)) (aCons (eC (.int 0)) (aCons (eC (.int 0)) (aCons (eC (.int 0)) (aCons (eC (.int 0)) (aCons (eC (.int 0)) (aCons (eC (.int 0)) (aCons (eC (.int 0)) (aCons (eC (.int 2)) aNil)))))))))) (eOp oAdd (eCallF m__law_high [.inl 0, .inl 1] [] (aCons (eOp oAdd (eOp oPow (eC (.int 2)) (eC (.int 62))) (eOp oIx (eVar 0) (eC (.int 0)))) (aCons (eC (.int 8)) aNil))) (eTup (aCons (eOp oIx (eVar 0) (eC (.int 1))) aNil)))))
noncomputable def m__law_said : Fx := runB 1 b__law_said
theorem sc__law_said : FnScope N__law_said ["name"] (defScope (top 55)) := ⟨rfl, rfl, rfl, nd__law_said, rfl, by decide +kernel, by decide +kernel⟩
theorem sm__law_said (T : Txt P K mg) : SimSs P w K mg base { N := N__law_said, sc := defScope (top 55), k := 2 } (defBody (top 55)) b__law_said :=
  (simSs_one (simS_ret (simE_if (simT_cmp ok_is (simE_var rfl (.inl rfl)) simE_non rfl) (simE_tup (simA_cons simE_int (simA_cons simE_int (simA_cons simE_int (simA_cons simE_int (simA_cons simE_int (simA_cons simE_int (simA_cons simE_int (simA_cons simE_int (simA_cons simE_int simA_nil (fun _ => rfl)) (fun _ => rfl)) (fun _ => rfl)) (fun _ => rfl)) (fun _ => rfl)) (fun _ => rfl)) (fun _ => rfl)) (fun _ => rfl)) (fun _ => rfl))) (simE_op ok_add (simE_cal (q := ⟨2, [], [.inl 0, .inl 1], []⟩) rfl (ok__law_high T) (.head _) (by decide) rfl (simC_pos (simA_cons (simE_op ok_add (simE_op ok_pow simE_int simE_int) (simE_ix ok_ix (simE_var rfl (.inl rfl)) simE_int (fun _ _ => rfl))) (simA_cons simE_int simA_nil (fun _ => rfl)) (fun _ => rfl)) (aLen_cons (aLen_cons aLen_nil)) (fun _ => rfl) (fun _ _ => rfl))) (simE_tup (simA_cons (simE_ix ok_ix (simE_var rfl (.inl rfl)) simE_int (fun _ _ => rfl)) simA_nil (fun _ => rfl)))))))
theorem ok__law_said (T : Txt P K mg) : Cal P w K mg base 3 ("_law_said" : Str) [("name" : Str)] m__law_said [⟨1, [], [.inl 0], []⟩] := cal0 T.d__law_said sc__law_said (sm__law_said T) (ways_cons ⟨rfl, rfl, fun kV doc pm an cdv ct us ws hu hw => by match us, ws, hu, hw with | [u0], [], _, _ => rfl⟩ ways_nil)
/-! ### _law_told_name -/
abbrev N__law_told_name : List Str := ["octets"]
theorem nd__law_told_name : N__law_told_name.Nodup := by decide +kernel
noncomputable def b__law_told_name : Sx :=
  (sSeq (sIf (tVal (eOp (oEq false) (eVar 0) (eTup (aCons (eC (.int 0)) (aCons (eC (.int 0)) (aCons (eC (.int 0)) (aCons (eC (.int 0)) (aCons (eC (.int 0)) (aCons (eC (.int 0)) (aCons (eC (.int 0)) (aCons (eC (.int 0)) (aCons (eC (.int 2)) aNil)))))))))))) (sRet (eLst (aCons (eC .non) aNil))) sNil)
    (sSeq (sIf (tOr' (tVal (eOp oLt (eOp oIx (eVar 0) (eC (.int 0))) (eC (.int 64)))) (tOr' (tVal (eOp oGt (eOp oIx (eVar 0) (eC (.int 0))) (eC (.int 127)))) (tVal (eOp oGt (eOp oIx (eVar 0) (eC (.int 8))) (eC (.int 1)))))) (sRet (eLst aNil)) sNil)
    (sRet (eLst (aCons (eTup (aCons (eOp oSub (eCallF m__law_number [.inl 0] [] (aCons (eRev (eSl (eVar 0) oNoP (oPart (eC (.int 8))))) aNil)) (eOp oPow (eC (.int 2)) (eC (.int 62)))) (aCons (eOp oIx (eVar 0) (eC (.int 8))) aNil))) aNil)))))
noncomputable def m__law_told_name : Fx := runB 1 b__law_told_name
theorem sc__law_told_name : FnScope N__law_told_name ["octets"] (defScope (top 56)) := ⟨rfl, rfl, rfl, nd__law_told_name, rfl, by decide +kernel, by decide +kernel⟩
theorem sm__law_told_name (T : Txt P K mg) : SimSs P w K mg base { N := N__law_told_name, sc := defScope (top 56), k := 1 } (defBody (top 56)) b__law_told_name :=
  (simSs_cons (simS_if (simT_cmp (ok_eq rfl) (simE_var rfl (.inl rfl)) (simE_tup (simA_cons simE_int (simA_cons simE_int (simA_cons simE_int (simA_cons simE_int (simA_cons simE_int (simA_cons simE_int (simA_cons simE_int (simA_cons simE_int (simA_cons simE_int simA_nil (fun _ => rfl)) (fun _ => rfl)) (fun _ => rfl)) (fun _ => rfl)) (fun _ => rfl)) (fun _ => rfl)) (fun _ => rfl)) (fun _ => rfl)) (fun _ => rfl))) rfl) (simSs_one (simS_ret (simE_lst (simA_cons simE_non simA_nil (fun _ => rfl))))) simSs_nil)
    (simSs_cons (simS_if (simT_W (simW_or (simT_cmp ok_ltI (simE_ix ok_ix (simE_var rfl (.inl rfl)) simE_int (fun _ _ => rfl)) simE_int rfl) (simW_or (simT_cmp ok_gtI (simE_ix ok_ix (simE_var rfl (.inl rfl)) simE_int (fun _ _ => rfl)) simE_int rfl) (simW_or1 (simT_cmp ok_gtI (simE_ix ok_ix (simE_var rfl (.inl rfl)) simE_int (fun _ _ => rfl)) simE_int rfl))))) (simSs_one (simS_ret (simE_lst simA_nil))) simSs_nil)
    (simSs_one (simS_ret (simE_lst (simA_cons (simE_tup (simA_cons (simE_op ok_sub (simE_cal (q := ⟨1, [], [.inl 0], []⟩) rfl (ok__law_number T) (.head _) (by decide) rfl (simC_pos (simA_cons (simE_rev (simE_sl (simE_var rfl (.inl rfl)) simO_none (simO_some simE_int))) simA_nil (fun _ => rfl)) (aLen_cons aLen_nil) (fun _ => rfl) (fun _ _ => rfl))) (simE_op ok_pow simE_int simE_int)) (simA_cons (simE_ix ok_ix (simE_var rfl (.inl rfl)) simE_int (fun _ _ => rfl)) simA_nil (fun _ => rfl)) (fun _ => rfl))) simA_nil (fun _ => rfl)))))))
theorem ok__law_told_name (T : Txt P K mg) : Cal P w K mg base 2 ("_law_told_name" : Str) [("octets" : Str)] m__law_told_name [⟨1, [], [.inl 0], []⟩] := cal0 T.d__law_told_name sc__law_told_name (sm__law_told_name T) (ways_cons ⟨rfl, rfl, fun kV doc pm an cdv ct us ws hu hw => by match us, ws, hu, hw with | [u0], [], _, _ => rfl⟩ ways_nil)
/-! ### _law_two -/
abbrev N__law_two : List Str := ["one", "other"]
theorem nd__law_two : N__law_two.Nodup := by decide +kernel
noncomputable def b__law_two : Sx :=
  (sRet (eIf (tVal (eOp (oEq false) (eCall (one' oRepr) (aCons (eVar 0) aNil)) (eCall (one' oRepr) (aCons (eVar 1) aNil)))) (eVar 0) (eLst (aCons (eC (.str ("unlike" : Str))) (aCons (eVar 0) (aCons (eVar 1) aNil))))))
noncomputable def m__law_two : Fx := runB 2 b__law_two
theorem sc__law_two : FnScope N__law_two ["one", "other"] (defScope (top 58)) := ⟨rfl, rfl, rfl, nd__law_two, rfl, by decide +kernel, by decide +kernel⟩
theorem sm__law_two (T : Txt P K mg) : SimSs P w K mg base { N := N__law_two, sc := defScope (top 58), k := 0 } (defBody (top 58)) b__law_two :=
  (simSs_one (simS_ret (simE_if (simT_cmp (ok_eq rfl) (simE_callB (ok_repr rfl) rfl T.n_repr rfl (simA_cons (simE_var rfl (.inl rfl)) simA_nil (fun _ => rfl)) (fun _ => rfl) (fun _ => rfl)) (simE_callB (ok_repr rfl) rfl T.n_repr rfl (simA_cons (simE_var rfl (.inl rfl)) simA_nil (fun _ => rfl)) (fun _ => rfl) (fun _ => rfl)) rfl) (simE_var rfl (.inl rfl)) (simE_lst (simA_cons simE_str (simA_cons (simE_var rfl (.inl rfl)) (simA_cons (simE_var rfl (.inl rfl)) simA_nil (fun _ => rfl)) (fun _ => rfl)) (fun _ => rfl))))))
theorem ok__law_two (T : Txt P K mg) : Cal P w K mg base 1 ("_law_two" : Str) [("one" : Str), ("other" : Str)] m__law_two [⟨2, [], [.inl 0, .inl 1], []⟩] := cal0 T.d__law_two sc__law_two (sm__law_two T) (ways_cons ⟨rfl, rfl, fun kV doc pm an cdv ct us ws hu hw => by match us, ws, hu, hw with | [u0, u1], [], _, _ => rfl⟩ ways_nil)
/-! ### _law_payloads -/
abbrev N__law_payloads : List Str := ["deal", "number", "stamp", "name", "first", "answer", "told", "octets", "turn", "cut", "bent", "due"]
theorem nd__law_payloads : N__law_payloads.Nodup := by decide +kernel
noncomputable def b__law_payloads : Sx :=
  (sSeq (sPar3 1 2 3 (aCons (eCallF m__law_any [.inl 0, .inl 1] [] (aCons (eVar 0) (aCons (eOp oPow (eC (.int 2)) (eC (.int 32))) aNil))) (aCons (eOp oAdd (eC (.int 1)) (eCallF m__law_any [.inl 0, .inl 1] [] (aCons (eVar 0) (aCons (eOp oSub (eOp oPow (eC (.int 2)) (eC (.int 62))) (eC (.int 1))) aNil)))) (aCons (eCallF m__law_name [.inl 0] [] (aCons (eVar 0) aNil)) aNil))))
    (sSeq (sPar 4 5 (aCons (eOp oAdd (eOp oAdd (eCallF m__law_low [.inl 0, .inl 1] [] (aCons (eVar 1) (aCons (eC (.int 4)) aNil))) (eCallF m__law_high [.inl 0, .inl 1] [] (aCons (eOp oAdd (eOp oPow (eC (.int 2)) (eC (.int 62))) (eVar 2)) (aCons (eC (.int 8)) aNil)))) (eCallF m__law_said [.inl 0] [] (aCons (eVar 3) aNil))) (aCons (eOp oAdd (eCallF m__law_low [.inl 0, .inl 1] [] (aCons (eVar 1) (aCons (eC (.int 4)) aNil))) (eCallF m__law_said [.inl 0] [] (aCons (eVar 3) aNil))) aNil)))
    (sSeq (sAsg (eLst (aCons (eCallF m__law_two [.inl 0, .inl 1] [] (aCons (eCallF m_said_octets [.inl 0] [] (aCons (eVar 3) aNil)) (aCons (eCallF m_said_octets [.inl 0] [] (aCons (eVar 3) aNil)) aNil))) aNil)) (gNm 6))
    (sSeq (sDrop (eLm mAppend (eVar 6) (aCons (eCallF m__law_two [.inl 0, .inl 1] [] (aCons (eCallF m_first_payload [.inl 0, .inl 1, .inl 2] [] (aCons (eVar 1) (aCons (eVar 2) (aCons (eVar 3) aNil)))) (aCons (eCallF m_first_payload [.inl 2, .inl 1, .inl 0] [] (aCons (eVar 3) (aCons (eVar 2) (aCons (eVar 1) aNil)))) aNil))) aNil)))
    (sSeq (sIf (tVal (eOp (oEq true) (eCall (one' oRepr) (aCons (eVar 6) aNil)) (eCall (one' oRepr) (aCons (eLst (aCons (eCallF m__law_said [.inl 0] [] (aCons (eVar 3) aNil)) (aCons (eVar 4) aNil))) aNil)))) (sRet (eC (.bl false))) sNil)
    (sSeq (sIf (tVal (eOp (oEq true) (eCall (one' oRepr) (aCons (eCallF m_answer_payload [.inl 1, .inl 0] [] (aCons (eVar 3) (aCons (eVar 1) aNil))) aNil)) (eCall (one' oRepr) (aCons (eVar 5) aNil)))) (sRet (eC (.bl false))) sNil)
    (sSeq (sIf (tVal (eOp (oEq true) (eCall (one' oRepr) (aCons (eLst (aCons (eCallF m_read_first_payload [.inl 0] [] (aCons (eVar 4) aNil)) (aCons (eCallF m_read_answer_payload [.inl 0] [] (aCons (eVar 5) aNil)) aNil))) aNil)) (eCall (one' oRepr) (aCons (eLst (aCons (eTup (aCons (eVar 1) (aCons (eVar 2) (aCons (eVar 3) aNil)))) (aCons (eTup (aCons (eVar 1) (aCons (eVar 3) aNil))) aNil))) aNil)))) (sRet (eC (.bl false))) sNil)
    (sSeq (sAsg (eCall (one' oList) (aCons (eCallF m__law_of [.inl 0, .inl 1] [] (aCons (eVar 0) (aCons (eLst (aCons (eVar 4) (aCons (eVar 5) aNil))) aNil))) aNil)) (gNm 7))
    (sSeq (sFor (iRange1 (eCallF m__law_any [.inl 0, .inl 1] [] (aCons (eVar 0) (aCons (eC (.int 3)) aNil)))) (gNm 8)
    (sSub kSetL (eVar 7) (eCallF m__law_any [.inl 0, .inl 1] [] (aCons (eVar 0) (aCons (eCall (one' oLen) (aCons (eVar 7) aNil)) aNil))) (eCallF m__law_of [.inl 0, .inl 1] [] (aCons (eVar 0) (aCons (eLst (aCons (eC (.int 0)) (aCons (eC (.int 1)) (aCons (eC (.int 2)) (aCons (eC (.int 63)) (aCons (eC (.int 64)) (aCons (eC (.int 127)) (aCons (eC (.int 128)) (aCons (eC (.int 255)) (aCons (eCallF m__law_any [.inl 0, .inl 1] [] (aCons (eVar 0) (aCons (eC (.int 256)) aNil))) aNil)))))))))) aNil)))))
    (sSeq (sAsg (eCallF m__law_of [.inl 0, .inl 1] [] (aCons (eVar 0) (aCons (eLst (aCons (eC (.int 0)) (aCons (eC (.int 0)) (aCons (eC (.int 0)) (aCons (eC (.int 1)) aNil))))) aNil))) (gNm 9))
    (sSeq (sAsg (eOp oAdd (eSl (eCall (one' oTuple) (aCons (eVar 7) aNil)) (oPart (eVar 9)) oNoP) (eCallF m__law_octets [.inl 0, .inl 1] [] (aCons (eVar 0) (aCons (eCallF m__law_of [.inl 0, .inl 1] [] (aCons (eVar 0) (aCons (eLst (aCons (eC (.int 0)) (aCons (eC (.int 0)) (aCons (eC (.int 0)) (aCons (eC (.int 1)) aNil))))) aNil))) aNil)))) (gNm 10))
    (sSeq (sPar 11 6 (aCons (eC .non) (aCons (eLst aNil) aNil)))
    (sSeq (sIf (tVal (eOp (oEq false) (eCall (one' oLen) (aCons (eVar 10) aNil)) (eC (.int 21)))) (sSeq (sAsg (eCallF m__law_told_name [.inl 0] [] (aCons (eSl (eVar 10) (oPart (eC (.int 12))) oNoP) aNil)) (gNm 6))
    (sIf (tAnd' (tVal (eOp (oEq true) (eVar 6) (eLst aNil))) (tAnd' (tVal (eOp oGt (eOp oIx (eVar 10) (eC (.int 4))) (eC (.int 63)))) (tVal (eOp oLt (eOp oIx (eVar 10) (eC (.int 4))) (eC (.int 128)))))) (sAsg (eTup (aCons (eCallF m__law_number [.inl 0] [] (aCons (eSl (eVar 10) oNoP (oPart (eC (.int 4)))) aNil)) (aCons (eOp oSub (eCallF m__law_number [.inl 0] [] (aCons (eRev (eSl (eVar 10) (oPart (eC (.int 4))) (oPart (eC (.int 12))))) aNil)) (eOp oPow (eC (.int 2)) (eC (.int 62)))) (aCons (eOp oIx (eVar 6) (eC (.int 0))) aNil)))) (gNm 11)) sNil)) sNil)
    (sSeq (sIf (tVal (eOp (oEq true) (eCall (one' oRepr) (aCons (eCallF m_read_first_payload [.inl 0] [] (aCons (eVar 10) aNil)) aNil)) (eCall (one' oRepr) (aCons (eVar 11) aNil)))) (sRet (eC (.bl false))) sNil)
    (sSeq (sAsg (eC .non) (gNm 11))
    (sSeq (sIf (tVal (eOp (oEq false) (eCall (one' oLen) (aCons (eVar 10) aNil)) (eC (.int 13)))) (sSeq (sAsg (eCallF m__law_told_name [.inl 0] [] (aCons (eSl (eVar 10) (oPart (eC (.int 4))) oNoP) aNil)) (gNm 6))
    (sAsg (eIf (tVal (eOp (oEq true) (eVar 6) (eLst aNil))) (eTup (aCons (eCallF m__law_number [.inl 0] [] (aCons (eSl (eVar 10) oNoP (oPart (eC (.int 4)))) aNil)) (aCons (eOp oIx (eVar 6) (eC (.int 0))) aNil))) (eC .non)) (gNm 11))) sNil)
    (sRet (eOp (oEq false) (eCall (one' oRepr) (aCons (eCallF m_read_answer_payload [.inl 0] [] (aCons (eVar 10) aNil)) aNil)) (eCall (one' oRepr) (aCons (eVar 11) aNil))))))))))))))))))))
noncomputable def m__law_payloads : Fx := runB 12 b__law_payloads
theorem sc__law_payloads : FnScope N__law_payloads ["deal"] (defScope (top 57)) := ⟨rfl, rfl, rfl, nd__law_payloads, rfl, by decide +kernel, by decide +kernel⟩
theorem sm__law_payloads (T : Txt P K mg) : SimSs P w K mg base { N := N__law_payloads, sc := defScope (top 57), k := 7 } (defBody (top 57)) b__law_payloads :=
  (simSs_cons (simS_par3 rfl nd__law_payloads rfl rfl rfl (by decide) (by decide) (by decide) rfl rfl rfl (simA_cons (simE_cal (q := ⟨2, [], [.inl 0, .inl 1], []⟩) rfl (ok__law_any T) (.head _) (by decide) rfl (simC_pos (simA_cons (simE_var rfl (.inl rfl)) (simA_cons (simE_op ok_pow simE_int simE_int) simA_nil (fun _ => rfl)) (fun _ => rfl)) (aLen_cons (aLen_cons aLen_nil)) (fun _ => rfl) (fun _ _ => rfl))) (simA_cons (simE_op ok_add simE_int (simE_cal (q := ⟨2, [], [.inl 0, .inl 1], []⟩) rfl (ok__law_any T) (.head _) (by decide) rfl (simC_pos (simA_cons (simE_var rfl (.inl rfl)) (simA_cons (simE_op ok_sub (simE_op ok_pow simE_int simE_int) simE_int) simA_nil (fun _ => rfl)) (fun _ => rfl)) (aLen_cons (aLen_cons aLen_nil)) (fun _ => rfl) (fun _ _ => rfl)))) (simA_cons (simE_cal (q := ⟨1, [], [.inl 0], []⟩) rfl (ok__law_name T) (.head _) (by decide) rfl (simC_pos (simA_cons (simE_var rfl (.inl rfl)) simA_nil (fun _ => rfl)) (aLen_cons aLen_nil) (fun _ => rfl) (fun _ _ => rfl))) simA_nil (fun _ => rfl)) (fun _ => rfl)) (fun _ => rfl)) (fun env h => by cases env; cases h; rfl) (fun _ => rfl))
    (simSs_cons (simS_par rfl nd__law_payloads rfl rfl (by decide) rfl rfl (simA_cons (simE_op ok_add (simE_op ok_add (simE_cal (q := ⟨2, [], [.inl 0, .inl 1], []⟩) rfl (ok__law_low T) (.head _) (by decide) rfl (simC_pos (simA_cons (simE_var rfl (.inl rfl)) (simA_cons simE_int simA_nil (fun _ => rfl)) (fun _ => rfl)) (aLen_cons (aLen_cons aLen_nil)) (fun _ => rfl) (fun _ _ => rfl))) (simE_cal (q := ⟨2, [], [.inl 0, .inl 1], []⟩) rfl (ok__law_high T) (.head _) (by decide) rfl (simC_pos (simA_cons (simE_op ok_add (simE_op ok_pow simE_int simE_int) (simE_var rfl (.inl rfl))) (simA_cons simE_int simA_nil (fun _ => rfl)) (fun _ => rfl)) (aLen_cons (aLen_cons aLen_nil)) (fun _ => rfl) (fun _ _ => rfl)))) (simE_cal (q := ⟨1, [], [.inl 0], []⟩) rfl (ok__law_said T) (.head _) (by decide) rfl (simC_pos (simA_cons (simE_var rfl (.inl rfl)) simA_nil (fun _ => rfl)) (aLen_cons aLen_nil) (fun _ => rfl) (fun _ _ => rfl)))) (simA_cons (simE_op ok_add (simE_cal (q := ⟨2, [], [.inl 0, .inl 1], []⟩) rfl (ok__law_low T) (.head _) (by decide) rfl (simC_pos (simA_cons (simE_var rfl (.inl rfl)) (simA_cons simE_int simA_nil (fun _ => rfl)) (fun _ => rfl)) (aLen_cons (aLen_cons aLen_nil)) (fun _ => rfl) (fun _ _ => rfl))) (simE_cal (q := ⟨1, [], [.inl 0], []⟩) rfl (ok__law_said T) (.head _) (by decide) rfl (simC_pos (simA_cons (simE_var rfl (.inl rfl)) simA_nil (fun _ => rfl)) (aLen_cons aLen_nil) (fun _ => rfl) (fun _ _ => rfl)))) simA_nil (fun _ => rfl)) (fun _ => rfl)) (fun env h => by cases env; cases h; rfl) (fun _ => rfl))
    (simSs_cons (simS_set nd__law_payloads rfl (.inl rfl) (.inl rfl) (simE_lst (simA_cons (simE_cal (q := ⟨2, [], [.inl 0, .inl 1], []⟩) rfl (ok__law_two T) (.head _) (by decide) rfl (simC_pos (simA_cons (simE_cal (q := ⟨1, [], [.inl 0], []⟩) rfl (ok_said_octets T) (.head _) (by decide) rfl (simC_pos (simA_cons (simE_var rfl (.inl rfl)) simA_nil (fun _ => rfl)) (aLen_cons aLen_nil) (fun _ => rfl) (fun _ _ => rfl))) (simA_cons (simE_cal (q := ⟨0, [("said" : Str)], [.inl 0], []⟩) rfl (ok_said_octets T) (.tail _ (.head _)) (by decide) rfl (simC_kw0 (simK_cons (simE_var rfl (.inl rfl)) simK_nil) (aLen_cons aLen_nil) (fun _ _ => rfl) (fun _ _ => rfl) (fun _ _ => rfl))) simA_nil (fun _ => rfl)) (fun _ => rfl)) (aLen_cons (aLen_cons aLen_nil)) (fun _ => rfl) (fun _ _ => rfl))) simA_nil (fun _ => rfl))) (fun _ => rfl))
    (simSs_cons (simS_expr (simE_lm ok_append PySem.F.slot_list_append PySem.F.type_list_append (simE_var rfl (.inl rfl)) (simA_cons (simE_cal (q := ⟨2, [], [.inl 0, .inl 1], []⟩) rfl (ok__law_two T) (.head _) (by decide) rfl (simC_pos (simA_cons (simE_cal (q := ⟨3, [], [.inl 0, .inl 1, .inl 2], []⟩) rfl (ok_first_payload T) (.head _) (by decide) rfl (simC_pos (simA_cons (simE_var rfl (.inl rfl)) (simA_cons (simE_var rfl (.inl rfl)) (simA_cons (simE_var rfl (.inl rfl)) simA_nil (fun _ => rfl)) (fun _ => rfl)) (fun _ => rfl)) (aLen_cons (aLen_cons (aLen_cons aLen_nil))) (fun _ => rfl) (fun _ _ => rfl))) (simA_cons (simE_cal (q := ⟨0, [("said" : Str), ("stamp" : Str), ("number" : Str)], [.inl 2, .inl 1, .inl 0], []⟩) rfl (ok_first_payload T) (.tail _ (.head _)) (by decide) rfl (simC_kw0 (simK_cons (simE_var rfl (.inl rfl)) (simK_cons (simE_var rfl (.inl rfl)) (simK_cons (simE_var rfl (.inl rfl)) simK_nil))) (aLen_cons (aLen_cons (aLen_cons aLen_nil))) (fun _ _ => rfl) (fun _ _ => rfl) (fun _ _ => rfl))) simA_nil (fun _ => rfl)) (fun _ => rfl)) (aLen_cons (aLen_cons aLen_nil)) (fun _ => rfl) (fun _ _ => rfl))) simA_nil (fun _ => rfl)) (fun _ => rfl) (fun _ => rfl) rfl (fun _ => rfl) (fun _ => rfl)) (fun _ => rfl))
    (simSs_cons (simS_if (simT_cmp (ok_ne rfl) (simE_callB (ok_repr rfl) rfl T.n_repr rfl (simA_cons (simE_var rfl (.inl rfl)) simA_nil (fun _ => rfl)) (fun _ => rfl) (fun _ => rfl)) (simE_callB (ok_repr rfl) rfl T.n_repr rfl (simA_cons (simE_lst (simA_cons (simE_cal (q := ⟨1, [], [.inl 0], []⟩) rfl (ok__law_said T) (.head _) (by decide) rfl (simC_pos (simA_cons (simE_var rfl (.inl rfl)) simA_nil (fun _ => rfl)) (aLen_cons aLen_nil) (fun _ => rfl) (fun _ _ => rfl))) (simA_cons (simE_var rfl (.inl rfl)) simA_nil (fun _ => rfl)) (fun _ => rfl))) simA_nil (fun _ => rfl)) (fun _ => rfl) (fun _ => rfl)) rfl) (simSs_one (simS_ret simE_bl)) simSs_nil)
    (simSs_cons (simS_if (simT_cmp (ok_ne rfl) (simE_callB (ok_repr rfl) rfl T.n_repr rfl (simA_cons (simE_cal (q := ⟨0, [("said" : Str), ("number" : Str)], [.inl 1, .inl 0], []⟩) rfl (ok_answer_payload T) (.head _) (by decide) rfl (simC_kw0 (simK_cons (simE_var rfl (.inl rfl)) (simK_cons (simE_var rfl (.inl rfl)) simK_nil)) (aLen_cons (aLen_cons aLen_nil)) (fun _ _ => rfl) (fun _ _ => rfl) (fun _ _ => rfl))) simA_nil (fun _ => rfl)) (fun _ => rfl) (fun _ => rfl)) (simE_callB (ok_repr rfl) rfl T.n_repr rfl (simA_cons (simE_var rfl (.inl rfl)) simA_nil (fun _ => rfl)) (fun _ => rfl) (fun _ => rfl)) rfl) (simSs_one (simS_ret simE_bl)) simSs_nil)
    (simSs_cons (simS_if (simT_cmp (ok_ne rfl) (simE_callB (ok_repr rfl) rfl T.n_repr rfl (simA_cons (simE_lst (simA_cons (simE_cal (q := ⟨1, [], [.inl 0], []⟩) rfl (ok_read_first_payload T) (.head _) (by decide) rfl (simC_pos (simA_cons (simE_var rfl (.inl rfl)) simA_nil (fun _ => rfl)) (aLen_cons aLen_nil) (fun _ => rfl) (fun _ _ => rfl))) (simA_cons (simE_cal (q := ⟨1, [], [.inl 0], []⟩) rfl (ok_read_answer_payload T) (.head _) (by decide) rfl (simC_pos (simA_cons (simE_var rfl (.inl rfl)) simA_nil (fun _ => rfl)) (aLen_cons aLen_nil) (fun _ => rfl) (fun _ _ => rfl))) simA_nil (fun _ => rfl)) (fun _ => rfl))) simA_nil (fun _ => rfl)) (fun _ => rfl) (fun _ => rfl)) (simE_callB (ok_repr rfl) rfl T.n_repr rfl (simA_cons (simE_lst (simA_cons (simE_tup (simA_cons (simE_var rfl (.inl rfl)) (simA_cons (simE_var rfl (.inl rfl)) (simA_cons (simE_var rfl (.inl rfl)) simA_nil (fun _ => rfl)) (fun _ => rfl)) (fun _ => rfl))) (simA_cons (simE_tup (simA_cons (simE_var rfl (.inl rfl)) (simA_cons (simE_var rfl (.inl rfl)) simA_nil (fun _ => rfl)) (fun _ => rfl))) simA_nil (fun _ => rfl)) (fun _ => rfl))) simA_nil (fun _ => rfl)) (fun _ => rfl) (fun _ => rfl)) rfl) (simSs_one (simS_ret simE_bl)) simSs_nil)
    (simSs_cons (simS_set nd__law_payloads rfl (.inl rfl) (.inl rfl) (simE_callTy (ok_list) rfl T.n_list rfl (simA_cons (simE_cal (q := ⟨2, [], [.inl 0, .inl 1], []⟩) rfl (ok__law_of T) (.head _) (by decide) rfl (simC_pos (simA_cons (simE_var rfl (.inl rfl)) (simA_cons (simE_lst (simA_cons (simE_var rfl (.inl rfl)) (simA_cons (simE_var rfl (.inl rfl)) simA_nil (fun _ => rfl)) (fun _ => rfl))) simA_nil (fun _ => rfl)) (fun _ => rfl)) (aLen_cons (aLen_cons aLen_nil)) (fun _ => rfl) (fun _ _ => rfl))) simA_nil (fun _ => rfl)) (fun _ => rfl) (fun _ => rfl)) (fun _ => rfl))
    (simSs_cons (simS_for rfl (simI_range1 rfl T.n_range (simE_cal (q := ⟨2, [], [.inl 0, .inl 1], []⟩) rfl (ok__law_any T) (.head _) (by decide) rfl (simC_pos (simA_cons (simE_var rfl (.inl rfl)) (simA_cons simE_int simA_nil (fun _ => rfl)) (fun _ => rfl)) (aLen_cons (aLen_cons aLen_nil)) (fun _ => rfl) (fun _ _ => rfl))) (fun _ => rfl)) (simG_name nd__law_payloads rfl (.inl rfl) (.inl rfl))
    (simSs_one (simS_sub ok_setL (simE_cal (q := ⟨2, [], [.inl 0, .inl 1], []⟩) rfl (ok__law_of T) (.head _) (by decide) rfl (simC_pos (simA_cons (simE_var rfl (.inl rfl)) (simA_cons (simE_lst (simA_cons simE_int (simA_cons simE_int (simA_cons simE_int (simA_cons simE_int (simA_cons simE_int (simA_cons simE_int (simA_cons simE_int (simA_cons simE_int (simA_cons (simE_cal (q := ⟨2, [], [.inl 0, .inl 1], []⟩) rfl (ok__law_any T) (.head _) (by decide) rfl (simC_pos (simA_cons (simE_var rfl (.inl rfl)) (simA_cons simE_int simA_nil (fun _ => rfl)) (fun _ => rfl)) (aLen_cons (aLen_cons aLen_nil)) (fun _ => rfl) (fun _ _ => rfl))) simA_nil (fun _ => rfl)) (fun _ => rfl)) (fun _ => rfl)) (fun _ => rfl)) (fun _ => rfl)) (fun _ => rfl)) (fun _ => rfl)) (fun _ => rfl)) (fun _ => rfl))) simA_nil (fun _ => rfl)) (fun _ => rfl)) (aLen_cons (aLen_cons aLen_nil)) (fun _ => rfl) (fun _ _ => rfl))) (simE_var rfl (.inl rfl)) (simE_cal (q := ⟨2, [], [.inl 0, .inl 1], []⟩) rfl (ok__law_any T) (.head _) (by decide) rfl (simC_pos (simA_cons (simE_var rfl (.inl rfl)) (simA_cons (simE_callB (ok_len) rfl T.n_len rfl (simA_cons (simE_var rfl (.inl rfl)) simA_nil (fun _ => rfl)) (fun _ => rfl) (fun _ => rfl)) simA_nil (fun _ => rfl)) (fun _ => rfl)) (aLen_cons (aLen_cons aLen_nil)) (fun _ => rfl) (fun _ _ => rfl))) (fun _ => rfl) (fun _ _ => rfl) (fun _ => rfl) (fun _ _ => rfl))) (fun _ _ => rfl))
    (simSs_cons (simS_set nd__law_payloads rfl (.inl rfl) (.inl rfl) (simE_cal (q := ⟨2, [], [.inl 0, .inl 1], []⟩) rfl (ok__law_of T) (.head _) (by decide) rfl (simC_pos (simA_cons (simE_var rfl (.inl rfl)) (simA_cons (simE_lst (simA_cons simE_int (simA_cons simE_int (simA_cons simE_int (simA_cons simE_int simA_nil (fun _ => rfl)) (fun _ => rfl)) (fun _ => rfl)) (fun _ => rfl))) simA_nil (fun _ => rfl)) (fun _ => rfl)) (aLen_cons (aLen_cons aLen_nil)) (fun _ => rfl) (fun _ _ => rfl))) (fun _ => rfl))
    (simSs_cons (simS_set nd__law_payloads rfl (.inl rfl) (.inl rfl) (simE_op ok_add (simE_sl (simE_callTy (ok_tuple) rfl T.n_tuple rfl (simA_cons (simE_var rfl (.inl rfl)) simA_nil (fun _ => rfl)) (fun _ => rfl) (fun _ => rfl)) (simO_some (simE_var rfl (.inl rfl))) simO_none) (simE_cal (q := ⟨2, [], [.inl 0, .inl 1], []⟩) rfl (ok__law_octets T) (.head _) (by decide) rfl (simC_pos (simA_cons (simE_var rfl (.inl rfl)) (simA_cons (simE_cal (q := ⟨2, [], [.inl 0, .inl 1], []⟩) rfl (ok__law_of T) (.head _) (by decide) rfl (simC_pos (simA_cons (simE_var rfl (.inl rfl)) (simA_cons (simE_lst (simA_cons simE_int (simA_cons simE_int (simA_cons simE_int (simA_cons simE_int simA_nil (fun _ => rfl)) (fun _ => rfl)) (fun _ => rfl)) (fun _ => rfl))) simA_nil (fun _ => rfl)) (fun _ => rfl)) (aLen_cons (aLen_cons aLen_nil)) (fun _ => rfl) (fun _ _ => rfl))) simA_nil (fun _ => rfl)) (fun _ => rfl)) (aLen_cons (aLen_cons aLen_nil)) (fun _ => rfl) (fun _ _ => rfl)))) (fun _ => rfl))
    (simSs_cons (simS_par rfl nd__law_payloads rfl rfl (by decide) rfl rfl (simA_cons simE_non (simA_cons (simE_lst simA_nil) simA_nil (fun _ => rfl)) (fun _ => rfl)) (fun env h => by cases env; cases h; rfl) (fun _ => rfl))
    (simSs_cons (simS_if (simT_cmp (ok_eq rfl) (simE_callB (ok_len) rfl T.n_len rfl (simA_cons (simE_var rfl (.inl rfl)) simA_nil (fun _ => rfl)) (fun _ => rfl) (fun _ => rfl)) simE_int rfl) (simSs_cons (simS_set nd__law_payloads rfl (.inl rfl) (.inl rfl) (simE_cal (q := ⟨1, [], [.inl 0], []⟩) rfl (ok__law_told_name T) (.head _) (by decide) rfl (simC_pos (simA_cons (simE_sl (simE_var rfl (.inl rfl)) (simO_some simE_int) simO_none) simA_nil (fun _ => rfl)) (aLen_cons aLen_nil) (fun _ => rfl) (fun _ _ => rfl))) (fun _ => rfl))
    (simSs_one (simS_if (simT_W (simW_and (simT_cmp (ok_ne rfl) (simE_var rfl (.inl rfl)) (simE_lst simA_nil) rfl) (simW_and (simT_cmp ok_gtI (simE_ix ok_ix (simE_var rfl (.inl rfl)) simE_int (fun _ _ => rfl)) simE_int rfl) (simW_and1 (simT_cmp ok_ltI (simE_ix ok_ix (simE_var rfl (.inl rfl)) simE_int (fun _ _ => rfl)) simE_int rfl))))) (simSs_one (simS_set nd__law_payloads rfl (.inl rfl) (.inl rfl) (simE_tup (simA_cons (simE_cal (q := ⟨1, [], [.inl 0], []⟩) rfl (ok__law_number T) (.head _) (by decide) rfl (simC_pos (simA_cons (simE_sl (simE_var rfl (.inl rfl)) simO_none (simO_some simE_int)) simA_nil (fun _ => rfl)) (aLen_cons aLen_nil) (fun _ => rfl) (fun _ _ => rfl))) (simA_cons (simE_op ok_sub (simE_cal (q := ⟨1, [], [.inl 0], []⟩) rfl (ok__law_number T) (.head _) (by decide) rfl (simC_pos (simA_cons (simE_rev (simE_sl (simE_var rfl (.inl rfl)) (simO_some simE_int) (simO_some simE_int))) simA_nil (fun _ => rfl)) (aLen_cons aLen_nil) (fun _ => rfl) (fun _ _ => rfl))) (simE_op ok_pow simE_int simE_int)) (simA_cons (simE_ix ok_ix (simE_var rfl (.inl rfl)) simE_int (fun _ _ => rfl)) simA_nil (fun _ => rfl)) (fun _ => rfl)) (fun _ => rfl))) (fun _ => rfl))) simSs_nil))) simSs_nil)
    (simSs_cons (simS_if (simT_cmp (ok_ne rfl) (simE_callB (ok_repr rfl) rfl T.n_repr rfl (simA_cons (simE_cal (q := ⟨0, [("octets" : Str)], [.inl 0], []⟩) rfl (ok_read_first_payload T) (.tail _ (.head _)) (by decide) rfl (simC_kw0 (simK_cons (simE_var rfl (.inl rfl)) simK_nil) (aLen_cons aLen_nil) (fun _ _ => rfl) (fun _ _ => rfl) (fun _ _ => rfl))) simA_nil (fun _ => rfl)) (fun _ => rfl) (fun _ => rfl)) (simE_callB (ok_repr rfl) rfl T.n_repr rfl (simA_cons (simE_var rfl (.inl rfl)) simA_nil (fun _ => rfl)) (fun _ => rfl) (fun _ => rfl)) rfl) (simSs_one (simS_ret simE_bl)) simSs_nil)
    (simSs_cons (simS_set nd__law_payloads rfl (.inl rfl) (.inl rfl) simE_non (fun _ => rfl))
    (simSs_cons (simS_if (simT_cmp (ok_eq rfl) (simE_callB (ok_len) rfl T.n_len rfl (simA_cons (simE_var rfl (.inl rfl)) simA_nil (fun _ => rfl)) (fun _ => rfl) (fun _ => rfl)) simE_int rfl) (simSs_cons (simS_set nd__law_payloads rfl (.inl rfl) (.inl rfl) (simE_cal (q := ⟨1, [], [.inl 0], []⟩) rfl (ok__law_told_name T) (.head _) (by decide) rfl (simC_pos (simA_cons (simE_sl (simE_var rfl (.inl rfl)) (simO_some simE_int) simO_none) simA_nil (fun _ => rfl)) (aLen_cons aLen_nil) (fun _ => rfl) (fun _ _ => rfl))) (fun _ => rfl))
    (simSs_one (simS_set nd__law_payloads rfl (.inl rfl) (.inl rfl) (simE_if (simT_cmp (ok_ne rfl) (simE_var rfl (.inl rfl)) (simE_lst simA_nil) rfl) (simE_tup (simA_cons (simE_cal (q := ⟨1, [], [.inl 0], []⟩) rfl (ok__law_number T) (.head _) (by decide) rfl (simC_pos (simA_cons (simE_sl (simE_var rfl (.inl rfl)) simO_none (simO_some simE_int)) simA_nil (fun _ => rfl)) (aLen_cons aLen_nil) (fun _ => rfl) (fun _ _ => rfl))) (simA_cons (simE_ix ok_ix (simE_var rfl (.inl rfl)) simE_int (fun _ _ => rfl)) simA_nil (fun _ => rfl)) (fun _ => rfl))) simE_non) (fun _ => rfl)))) simSs_nil)
    (simSs_one (simS_ret (simE_cmp (ok_eq rfl) (simE_callB (ok_repr rfl) rfl T.n_repr rfl (simA_cons (simE_cal (q := ⟨0, [("octets" : Str)], [.inl 0], []⟩) rfl (ok_read_answer_payload T) (.tail _ (.head _)) (by decide) rfl (simC_kw0 (simK_cons (simE_var rfl (.inl rfl)) simK_nil) (aLen_cons aLen_nil) (fun _ _ => rfl) (fun _ _ => rfl) (fun _ _ => rfl))) simA_nil (fun _ => rfl)) (fun _ => rfl) (fun _ => rfl)) (simE_callB (ok_repr rfl) rfl T.n_repr rfl (simA_cons (simE_var rfl (.inl rfl)) simA_nil (fun _ => rfl)) (fun _ => rfl) (fun _ => rfl)) rfl)))))))))))))))))))
theorem ok__law_payloads (T : Txt P K mg) : Cal P w K mg base 8 ("_law_payloads" : Str) [("deal" : Str)] m__law_payloads [⟨1, [], [.inl 0], []⟩] := cal0 T.d__law_payloads sc__law_payloads (sm__law_payloads T) (ways_cons ⟨rfl, rfl, fun kV doc pm an cdv ct us ws hu hw => by match us, ws, hu, hw with | [u0], [], _, _ => rfl⟩ ways_nil)
/-! ### law -/
abbrev N_law : List Str := ["script", "deal", "turn", "value", "number", "counter", "letter", "head", "due", "told", "read"]
theorem nd_law : N_law.Nodup := by decide +kernel
noncomputable def b_law : Sx :=
  (sSeq (sAsg (eCallF m__law_deal [.inl 0, .inl 1] [] (aCons (eVar 0) (aCons (eC (.int 78)) aNil))) (gNm 1))
    (sSeq (sFor (iRange1 (eC (.int 5))) (gNm 2)
    (sSeq (sAsg (eCallF m__law_value [.inl 0] [] (aCons (eVar 1) aNil)) (gNm 3))
    (sSeq (sIf (tVal (eOp (oEq true) (eCall (one' oRepr) (aCons (eCallF m__law_told [.inl 0] [] (aCons (eVar 3) aNil)) aNil)) (eCall (one' oRepr) (aCons (eCallF m__law_read [.inl 0] [] (aCons (eVar 3) aNil)) aNil)))) (sRet (eC (.bl false))) sNil)
    (sSeq (sPar 4 5 (aCons (eCallF m__law_of [.inl 0, .inl 1] [] (aCons (eVar 1) (aCons (eLst (aCons (eC (.int 0)) (aCons (eOp oSub (eOp oPow (eC (.int 2)) (eC (.int 32))) (eC (.int 1))) (aCons (eCallF m__law_any [.inl 0, .inl 1] [] (aCons (eVar 1) (aCons (eOp oPow (eC (.int 2)) (eC (.int 32))) aNil))) aNil)))) aNil))) (aCons (eCallF m__law_any [.inl 0, .inl 1] [] (aCons (eVar 1) (aCons (eOp oPow (eC (.int 2)) (eC (.int 63))) aNil))) aNil)))
    (sSeq (sAsg (eCallF m__law_octets [.inl 0, .inl 1] [] (aCons (eVar 1) (aCons (eCallF m__law_any [.inl 0, .inl 1] [] (aCons (eVar 1) (aCons (eC (.int 20)) aNil))) aNil))) (gNm 6))
    (sSeq (sAsg (eOp oAdd (eOp oAdd (eTup (aCons (eC (.int 3)) aNil)) (eCallF m__law_low [.inl 0, .inl 1] [] (aCons (eVar 4) (aCons (eC (.int 4)) aNil)))) (eCallF m__law_low [.inl 0, .inl 1] [] (aCons (eVar 5) (aCons (eC (.int 8)) aNil)))) (gNm 7))
    (sSeq (sAsg (eLst (aCons (eOp oAdd (eTup (aCons (eC (.int 1)) aNil)) (eVar 6)) (aCons (eOp oAdd (eOp oAdd (eTup (aCons (eC (.int 2)) aNil)) (eCallF m__law_low [.inl 0, .inl 1] [] (aCons (eVar 4) (aCons (eC (.int 4)) aNil)))) (eVar 6)) (aCons (eVar 7) (aCons (eOp oAdd (eVar 7) (eVar 6)) aNil))))) (gNm 8))
    (sSeq (sAsg (eLst (aCons (eCallF m__law_two [.inl 0, .inl 1] [] (aCons (eCallF m_first_datagram [.inl 0] [] (aCons (eVar 6) aNil)) (aCons (eCallF m_first_datagram [.inl 0] [] (aCons (eVar 6) aNil)) aNil))) aNil)) (gNm 9))
    (sSeq (sDrop (eLm mAppend (eVar 9) (aCons (eCallF m__law_two [.inl 0, .inl 1] [] (aCons (eCallF m_answer_datagram [.inl 0, .inl 1] [] (aCons (eVar 4) (aCons (eVar 6) aNil))) (aCons (eCallF m_answer_datagram [.inl 1, .inl 0] [] (aCons (eVar 6) (aCons (eVar 4) aNil))) aNil))) aNil)))
    (sSeq (sDrop (eLm mAppend (eVar 9) (aCons (eCallF m__law_two [.inl 0, .inl 1] [] (aCons (eCallF m_sealed_head [.inl 0, .inl 1] [] (aCons (eVar 4) (aCons (eVar 5) aNil))) (aCons (eCallF m_sealed_head [.inl 1, .inl 0] [] (aCons (eVar 5) (aCons (eVar 4) aNil))) aNil))) aNil)))
    (sSeq (sDrop (eLm mAppend (eVar 9) (aCons (eCallF m_sealed_datagram [.inl 2, .inl 1, .inl 0] [] (aCons (eVar 6) (aCons (eVar 5) (aCons (eVar 4) aNil)))) aNil)))
    (sSeq (sIf (tVal (eOp (oEq true) (eCall (one' oRepr) (aCons (eVar 9) aNil)) (eCall (one' oRepr) (aCons (eVar 8) aNil)))) (sRet (eC (.bl false))) sNil)
    (sSeq (sAsg (eLst (aCons (eCallF m_read_datagram [.inl 0] [] (aCons (eOp oIx (eVar 8) (eC (.int 0))) aNil)) (aCons (eCallF m_read_datagram [.inl 0] [] (aCons (eOp oIx (eVar 8) (eC (.int 1))) aNil)) (aCons (eCallF m_read_datagram [.inl 0] [] (aCons (eOp oIx (eVar 8) (eC (.int 3))) aNil)) aNil)))) (gNm 10))
    (sSeq (sIf (tVal (eOp (oEq true) (eCall (one' oRepr) (aCons (eVar 10) aNil)) (eCall (one' oRepr) (aCons (eLst (aCons (eTup (aCons (eC (.str ("first" : Str))) (aCons (eVar 6) aNil))) (aCons (eTup (aCons (eC (.str ("answer" : Str))) (aCons (eVar 4) (aCons (eVar 6) aNil)))) (aCons (eTup (aCons (eC (.str ("sealed" : Str))) (aCons (eVar 4) (aCons (eVar 5) (aCons (eVar 6) aNil))))) aNil)))) aNil)))) (sRet (eC (.bl false))) sNil)
    (sIf (tNot' (tVal (eCallF m__law_payloads [.inl 0] [] (aCons (eVar 1) aNil)))) (sRet (eC (.bl false))) sNil)))))))))))))))
    (sRet (eC (.bl true)))))
noncomputable def m_law : Fx := runB 11 b_law
theorem sc_law : FnScope N_law ["script"] (defScope (top 59)) := ⟨rfl, rfl, rfl, nd_law, rfl, by decide +kernel, by decide +kernel⟩
theorem sm_law (T : Txt P K mg) : SimSs P w K mg base { N := N_law, sc := defScope (top 59), k := 8 } (defBody (top 59)) b_law :=
  (simSs_cons (simS_set nd_law rfl (.inl rfl) (.inl rfl) (simE_cal (q := ⟨2, [], [.inl 0, .inl 1], []⟩) rfl (ok__law_deal T) (.head _) (by decide) rfl (simC_pos (simA_cons (simE_var rfl (.inl rfl)) (simA_cons simE_int simA_nil (fun _ => rfl)) (fun _ => rfl)) (aLen_cons (aLen_cons aLen_nil)) (fun _ => rfl) (fun _ _ => rfl))) (fun _ => rfl))
    (simSs_cons (simS_for rfl (simI_range1 rfl T.n_range simE_int (fun _ => rfl)) (simG_name nd_law rfl (.inl rfl) (.inl rfl))
    (simSs_cons (simS_set nd_law rfl (.inl rfl) (.inl rfl) (simE_cal (q := ⟨1, [], [.inl 0], []⟩) rfl (ok__law_value T) (.head _) (by decide) rfl (simC_pos (simA_cons (simE_var rfl (.inl rfl)) simA_nil (fun _ => rfl)) (aLen_cons aLen_nil) (fun _ => rfl) (fun _ _ => rfl))) (fun _ => rfl))
    (simSs_cons (simS_if (simT_cmp (ok_ne rfl) (simE_callB (ok_repr rfl) rfl T.n_repr rfl (simA_cons (simE_cal (q := ⟨1, [], [.inl 0], []⟩) rfl (ok__law_told T) (.head _) (by decide) rfl (simC_pos (simA_cons (simE_var rfl (.inl rfl)) simA_nil (fun _ => rfl)) (aLen_cons aLen_nil) (fun _ => rfl) (fun _ _ => rfl))) simA_nil (fun _ => rfl)) (fun _ => rfl) (fun _ => rfl)) (simE_callB (ok_repr rfl) rfl T.n_repr rfl (simA_cons (simE_cal (q := ⟨1, [], [.inl 0], []⟩) rfl (ok__law_read T) (.head _) (by decide) rfl (simC_pos (simA_cons (simE_var rfl (.inl rfl)) simA_nil (fun _ => rfl)) (aLen_cons aLen_nil) (fun _ => rfl) (fun _ _ => rfl))) simA_nil (fun _ => rfl)) (fun _ => rfl) (fun _ => rfl)) rfl) (simSs_one (simS_ret simE_bl)) simSs_nil)
    (simSs_cons (simS_par rfl nd_law rfl rfl (by decide) rfl rfl (simA_cons (simE_cal (q := ⟨2, [], [.inl 0, .inl 1], []⟩) rfl (ok__law_of T) (.head _) (by decide) rfl (simC_pos (simA_cons (simE_var rfl (.inl rfl)) (simA_cons (simE_lst (simA_cons simE_int (simA_cons (simE_op ok_sub (simE_op ok_pow simE_int simE_int) simE_int) (simA_cons (simE_cal (q := ⟨2, [], [.inl 0, .inl 1], []⟩) rfl (ok__law_any T) (.head _) (by decide) rfl (simC_pos (simA_cons (simE_var rfl (.inl rfl)) (simA_cons (simE_op ok_pow simE_int simE_int) simA_nil (fun _ => rfl)) (fun _ => rfl)) (aLen_cons (aLen_cons aLen_nil)) (fun _ => rfl) (fun _ _ => rfl))) simA_nil (fun _ => rfl)) (fun _ => rfl)) (fun _ => rfl))) simA_nil (fun _ => rfl)) (fun _ => rfl)) (aLen_cons (aLen_cons aLen_nil)) (fun _ => rfl) (fun _ _ => rfl))) (simA_cons (simE_cal (q := ⟨2, [], [.inl 0, .inl 1], []⟩) rfl (ok__law_any T) (.head _) (by decide) rfl (simC_pos (simA_cons (simE_var rfl (.inl rfl)) (simA_cons (simE_op ok_pow simE_int simE_int) simA_nil (fun _ => rfl)) (fun _ => rfl)) (aLen_cons (aLen_cons aLen_nil)) (fun _ => rfl) (fun _ _ => rfl))) simA_nil (fun _ => rfl)) (fun _ => rfl)) (fun env h => by cases env; cases h; rfl) (fun _ => rfl))
    (simSs_cons (simS_set nd_law rfl (.inl rfl) (.inl rfl) (simE_cal (q := ⟨2, [], [.inl 0, .inl 1], []⟩) rfl (ok__law_octets T) (.head _) (by decide) rfl (simC_pos (simA_cons (simE_var rfl (.inl rfl)) (simA_cons (simE_cal (q := ⟨2, [], [.inl 0, .inl 1], []⟩) rfl (ok__law_any T) (.head _) (by decide) rfl (simC_pos (simA_cons (simE_var rfl (.inl rfl)) (simA_cons simE_int simA_nil (fun _ => rfl)) (fun _ => rfl)) (aLen_cons (aLen_cons aLen_nil)) (fun _ => rfl) (fun _ _ => rfl))) simA_nil (fun _ => rfl)) (fun _ => rfl)) (aLen_cons (aLen_cons aLen_nil)) (fun _ => rfl) (fun _ _ => rfl))) (fun _ => rfl))
    (simSs_cons (simS_set nd_law rfl (.inl rfl) (.inl rfl) (simE_op ok_add (simE_op ok_add (simE_tup (simA_cons simE_int simA_nil (fun _ => rfl))) (simE_cal (q := ⟨2, [], [.inl 0, .inl 1], []⟩) rfl (ok__law_low T) (.head _) (by decide) rfl (simC_pos (simA_cons (simE_var rfl (.inl rfl)) (simA_cons simE_int simA_nil (fun _ => rfl)) (fun _ => rfl)) (aLen_cons (aLen_cons aLen_nil)) (fun _ => rfl) (fun _ _ => rfl)))) (simE_cal (q := ⟨2, [], [.inl 0, .inl 1], []⟩) rfl (ok__law_low T) (.head _) (by decide) rfl (simC_pos (simA_cons (simE_var rfl (.inl rfl)) (simA_cons simE_int simA_nil (fun _ => rfl)) (fun _ => rfl)) (aLen_cons (aLen_cons aLen_nil)) (fun _ => rfl) (fun _ _ => rfl)))) (fun _ => rfl))
    (simSs_cons (simS_set nd_law rfl (.inl rfl) (.inl rfl) (simE_lst (simA_cons (simE_op ok_add (simE_tup (simA_cons simE_int simA_nil (fun _ => rfl))) (simE_var rfl (.inl rfl))) (simA_cons (simE_op ok_add (simE_op ok_add (simE_tup (simA_cons simE_int simA_nil (fun _ => rfl))) (simE_cal (q := ⟨2, [], [.inl 0, .inl 1], []⟩) rfl (ok__law_low T) (.head _) (by decide) rfl (simC_pos (simA_cons (simE_var rfl (.inl rfl)) (simA_cons simE_int simA_nil (fun _ => rfl)) (fun _ => rfl)) (aLen_cons (aLen_cons aLen_nil)) (fun _ => rfl) (fun _ _ => rfl)))) (simE_var rfl (.inl rfl))) (simA_cons (simE_var rfl (.inl rfl)) (simA_cons (simE_op ok_add (simE_var rfl (.inl rfl)) (simE_var rfl (.inl rfl))) simA_nil (fun _ => rfl)) (fun _ => rfl)) (fun _ => rfl)) (fun _ => rfl))) (fun _ => rfl))
    (simSs_cons (simS_set nd_law rfl (.inl rfl) (.inl rfl) (simE_lst (simA_cons (simE_cal (q := ⟨2, [], [.inl 0, .inl 1], []⟩) rfl (ok__law_two T) (.head _) (by decide) rfl (simC_pos (simA_cons (simE_cal (q := ⟨1, [], [.inl 0], []⟩) rfl (ok_first_datagram T) (.head _) (by decide) rfl (simC_pos (simA_cons (simE_var rfl (.inl rfl)) simA_nil (fun _ => rfl)) (aLen_cons aLen_nil) (fun _ => rfl) (fun _ _ => rfl))) (simA_cons (simE_cal (q := ⟨0, [("letter" : Str)], [.inl 0], []⟩) rfl (ok_first_datagram T) (.tail _ (.head _)) (by decide) rfl (simC_kw0 (simK_cons (simE_var rfl (.inl rfl)) simK_nil) (aLen_cons aLen_nil) (fun _ _ => rfl) (fun _ _ => rfl) (fun _ _ => rfl))) simA_nil (fun _ => rfl)) (fun _ => rfl)) (aLen_cons (aLen_cons aLen_nil)) (fun _ => rfl) (fun _ _ => rfl))) simA_nil (fun _ => rfl))) (fun _ => rfl))
    (simSs_cons (simS_expr (simE_lm ok_append PySem.F.slot_list_append PySem.F.type_list_append (simE_var rfl (.inl rfl)) (simA_cons (simE_cal (q := ⟨2, [], [.inl 0, .inl 1], []⟩) rfl (ok__law_two T) (.head _) (by decide) rfl (simC_pos (simA_cons (simE_cal (q := ⟨2, [], [.inl 0, .inl 1], []⟩) rfl (ok_answer_datagram T) (.head _) (by decide) rfl (simC_pos (simA_cons (simE_var rfl (.inl rfl)) (simA_cons (simE_var rfl (.inl rfl)) simA_nil (fun _ => rfl)) (fun _ => rfl)) (aLen_cons (aLen_cons aLen_nil)) (fun _ => rfl) (fun _ _ => rfl))) (simA_cons (simE_cal (q := ⟨0, [("letter" : Str), ("number" : Str)], [.inl 1, .inl 0], []⟩) rfl (ok_answer_datagram T) (.tail _ (.head _)) (by decide) rfl (simC_kw0 (simK_cons (simE_var rfl (.inl rfl)) (simK_cons (simE_var rfl (.inl rfl)) simK_nil)) (aLen_cons (aLen_cons aLen_nil)) (fun _ _ => rfl) (fun _ _ => rfl) (fun _ _ => rfl))) simA_nil (fun _ => rfl)) (fun _ => rfl)) (aLen_cons (aLen_cons aLen_nil)) (fun _ => rfl) (fun _ _ => rfl))) simA_nil (fun _ => rfl)) (fun _ => rfl) (fun _ => rfl) rfl (fun _ => rfl) (fun _ => rfl)) (fun _ => rfl))
    (simSs_cons (simS_expr (simE_lm ok_append PySem.F.slot_list_append PySem.F.type_list_append (simE_var rfl (.inl rfl)) (simA_cons (simE_cal (q := ⟨2, [], [.inl 0, .inl 1], []⟩) rfl (ok__law_two T) (.head _) (by decide) rfl (simC_pos (simA_cons (simE_cal (q := ⟨2, [], [.inl 0, .inl 1], []⟩) rfl (ok_sealed_head T) (.head _) (by decide) rfl (simC_pos (simA_cons (simE_var rfl (.inl rfl)) (simA_cons (simE_var rfl (.inl rfl)) simA_nil (fun _ => rfl)) (fun _ => rfl)) (aLen_cons (aLen_cons aLen_nil)) (fun _ => rfl) (fun _ _ => rfl))) (simA_cons (simE_cal (q := ⟨0, [("counter" : Str), ("number" : Str)], [.inl 1, .inl 0], []⟩) rfl (ok_sealed_head T) (.tail _ (.head _)) (by decide) rfl (simC_kw0 (simK_cons (simE_var rfl (.inl rfl)) (simK_cons (simE_var rfl (.inl rfl)) simK_nil)) (aLen_cons (aLen_cons aLen_nil)) (fun _ _ => rfl) (fun _ _ => rfl) (fun _ _ => rfl))) simA_nil (fun _ => rfl)) (fun _ => rfl)) (aLen_cons (aLen_cons aLen_nil)) (fun _ => rfl) (fun _ _ => rfl))) simA_nil (fun _ => rfl)) (fun _ => rfl) (fun _ => rfl) rfl (fun _ => rfl) (fun _ => rfl)) (fun _ => rfl))
    (simSs_cons (simS_expr (simE_lm ok_append PySem.F.slot_list_append PySem.F.type_list_append (simE_var rfl (.inl rfl)) (simA_cons (simE_cal (q := ⟨0, [("sealed" : Str), ("counter" : Str), ("number" : Str)], [.inl 2, .inl 1, .inl 0], []⟩) rfl (ok_sealed_datagram T) (.head _) (by decide) rfl (simC_kw0 (simK_cons (simE_var rfl (.inl rfl)) (simK_cons (simE_var rfl (.inl rfl)) (simK_cons (simE_var rfl (.inl rfl)) simK_nil))) (aLen_cons (aLen_cons (aLen_cons aLen_nil))) (fun _ _ => rfl) (fun _ _ => rfl) (fun _ _ => rfl))) simA_nil (fun _ => rfl)) (fun _ => rfl) (fun _ => rfl) rfl (fun _ => rfl) (fun _ => rfl)) (fun _ => rfl))
    (simSs_cons (simS_if (simT_cmp (ok_ne rfl) (simE_callB (ok_repr rfl) rfl T.n_repr rfl (simA_cons (simE_var rfl (.inl rfl)) simA_nil (fun _ => rfl)) (fun _ => rfl) (fun _ => rfl)) (simE_callB (ok_repr rfl) rfl T.n_repr rfl (simA_cons (simE_var rfl (.inl rfl)) simA_nil (fun _ => rfl)) (fun _ => rfl) (fun _ => rfl)) rfl) (simSs_one (simS_ret simE_bl)) simSs_nil)
    (simSs_cons (simS_set nd_law rfl (.inl rfl) (.inl rfl) (simE_lst (simA_cons (simE_cal (q := ⟨1, [], [.inl 0], []⟩) rfl (ok_read_datagram T) (.head _) (by decide) rfl (simC_pos (simA_cons (simE_ix ok_ix (simE_var rfl (.inl rfl)) simE_int (fun _ _ => rfl)) simA_nil (fun _ => rfl)) (aLen_cons aLen_nil) (fun _ => rfl) (fun _ _ => rfl))) (simA_cons (simE_cal (q := ⟨1, [], [.inl 0], []⟩) rfl (ok_read_datagram T) (.head _) (by decide) rfl (simC_pos (simA_cons (simE_ix ok_ix (simE_var rfl (.inl rfl)) simE_int (fun _ _ => rfl)) simA_nil (fun _ => rfl)) (aLen_cons aLen_nil) (fun _ => rfl) (fun _ _ => rfl))) (simA_cons (simE_cal (q := ⟨0, [("value" : Str)], [.inl 0], []⟩) rfl (ok_read_datagram T) (.tail _ (.head _)) (by decide) rfl (simC_kw0 (simK_cons (simE_ix ok_ix (simE_var rfl (.inl rfl)) simE_int (fun _ _ => rfl)) simK_nil) (aLen_cons aLen_nil) (fun _ _ => rfl) (fun _ _ => rfl) (fun _ _ => rfl))) simA_nil (fun _ => rfl)) (fun _ => rfl)) (fun _ => rfl))) (fun _ => rfl))
    (simSs_cons (simS_if (simT_cmp (ok_ne rfl) (simE_callB (ok_repr rfl) rfl T.n_repr rfl (simA_cons (simE_var rfl (.inl rfl)) simA_nil (fun _ => rfl)) (fun _ => rfl) (fun _ => rfl)) (simE_callB (ok_repr rfl) rfl T.n_repr rfl (simA_cons (simE_lst (simA_cons (simE_tup (simA_cons simE_str (simA_cons (simE_var rfl (.inl rfl)) simA_nil (fun _ => rfl)) (fun _ => rfl))) (simA_cons (simE_tup (simA_cons simE_str (simA_cons (simE_var rfl (.inl rfl)) (simA_cons (simE_var rfl (.inl rfl)) simA_nil (fun _ => rfl)) (fun _ => rfl)) (fun _ => rfl))) (simA_cons (simE_tup (simA_cons simE_str (simA_cons (simE_var rfl (.inl rfl)) (simA_cons (simE_var rfl (.inl rfl)) (simA_cons (simE_var rfl (.inl rfl)) simA_nil (fun _ => rfl)) (fun _ => rfl)) (fun _ => rfl)) (fun _ => rfl))) simA_nil (fun _ => rfl)) (fun _ => rfl)) (fun _ => rfl))) simA_nil (fun _ => rfl)) (fun _ => rfl) (fun _ => rfl)) rfl) (simSs_one (simS_ret simE_bl)) simSs_nil)
    (simSs_one (simS_if (simT_not (simT_val (simE_cal (q := ⟨1, [], [.inl 0], []⟩) rfl (ok__law_payloads T) (.head _) (by decide) rfl (simC_pos (simA_cons (simE_var rfl (.inl rfl)) simA_nil (fun _ => rfl)) (aLen_cons aLen_nil) (fun _ => rfl) (fun _ _ => rfl))) (fun _ _ => rfl))) (simSs_one (simS_ret simE_bl)) simSs_nil))))))))))))))) (fun _ _ => rfl))
    (simSs_one (simS_ret simE_bl))))
theorem ok_law (T : Txt P K mg) : Cal P w K mg base 9 ("law" : Str) [("script" : Str)] m_law [] := cal0 T.d_law sc_law (sm_law T) ways_nil
end
end Lw

namespace Lw
open PySem L2 Sm
/-! ### kinds -/
def isI : Val → Bool
  | .int _ => true
  | _ => false
def isT : Val → Bool
  | .tup _ => true
  | .kt _ => true
  | _ => false
theorem kit_ii : kitB "int" "int" = some true := by decide +kernel
theorem kit_bi : kitB "bool" "int" = some true := by decide +kernel
theorem kit_ni : kitB "NoneType" "int" = some false := by decide +kernel
theorem kit_si : kitB "str" "int" = some false := by decide +kernel
theorem kit_ti : kitB "tuple" "int" = some false := by decide +kernel
theorem kit_li : kitB "list" "int" = some false := by decide +kernel
theorem kit_ib : kitB "int" "bool" = some false := by decide +kernel
theorem kit_bb : kitB "bool" "bool" = some true := by decide +kernel
theorem kit_it : kitB "int" "tuple" = some false := by decide +kernel
theorem kit_bt : kitB "bool" "tuple" = some false := by decide +kernel
theorem kit_nt : kitB "NoneType" "tuple" = some false := by decide +kernel
theorem kit_st : kitB "str" "tuple" = some false := by decide +kernel
theorem kit_tt : kitB "tuple" "tuple" = some true := by decide +kernel
theorem kit_lt : kitB "list" "tuple" = some false := by decide +kernel
/-- what isinstance may be asked of -/
def Pl (st : Sto) : Val → Prop
  | .non => True
  | .bl _ => True
  | .int _ => True
  | .str _ => True
  | .tup _ => True
  | .kt _ => True
  | .loc l => ∃ xs, st[l]? = some (.lst xs)
  | _ => False
theorem Pl.ok {st : Sto} {x : Val} (h : Pl st x) : okV x = true := by cases x <;> first | rfl | exact h.elim
theorem is_integer_ok {st : Sto} {x : Val} (h : Pl st x) : m_is_integer [x] st = .ok (.bl (isI x)) st := by
  have ho := h.ok
  have e : m_is_integer [x] st = runB 1 b_is_integer [x] st := rfl
  cases x with
  | loc l =>
    obtain ⟨xs, hx⟩ := h
    simp [m_is_integer, runB, b_is_integer, one', two', oIsi, tyName, hx, kit_li, isI]
  | scr _ => exact h.elim
  | fn _ => exact h.elim
  | cl _ => exact h.elim
  | ty _ => exact h.elim
  | exc _ _ => exact h.elim
  | _ => simp [m_is_integer, runB, b_is_integer, one', two', oIsi, tyName, kit_ii, kit_bi, kit_ni, kit_si, kit_ti, kit_ib, kit_bb, isI]

def isB (b : Int) : Val → Bool
  | .int i => decide (0 ≤ i) && decide (i < b)
  | _ => false
theorem is_below_ok {st : Sto} {x : Val} {b : Int} (h : Pl st x) : m_is_below [x, .int b] st = .ok (.bl (isB b x)) st := by
  cases x with
  | int i => by_cases h1 : 0 ≤ i <;> simp [m_is_below, runB, b_is_below, arr, is_integer_ok h, isI, isB, oInt_eq, h1]
  | scr _ => exact h.elim
  | fn _ => exact h.elim
  | cl _ => exact h.elim
  | ty _ => exact h.elim
  | exc _ _ => exact h.elim
  | _ => simp [m_is_below, runB, b_is_below, arr, is_integer_ok h, isI, isB]
/-! ### enumerate, as a list -/
def enumF : Nat → List Val → List Val
  | _, [] => []
  | k, x :: r => .tup [.int (k : Int), x] :: enumF (k + 1) r
theorem enumF_range (xs : List Val) (k : Nat) : enumF k xs = (List.range xs.length).map fun (i : Nat) => Val.tup [.int ((k + i : Nat) : Int), xs.getD i .non] := by
  induction xs generalizing k with
  | nil => rfl
  | cons x r ih =>
    rw [List.length_cons, List.range_succ_eq_map, List.map_cons, List.map_map, enumF, ih]
    congr 1
    refine List.map_congr_left fun i _ => ?_
    simp only [Function.comp]
    congr 3
    · congr 1
      omega
theorem enumV_eq (xs : List Val) : enumV xs = enumF 0 xs := by
  rw [enumF_range]
  unfold enumV
  refine List.map_congr_left fun i _ => by simp
/-- the first place that is no octet, or that is size -/
def wpF (size : Option Int) : Nat → List Val → Option Nat
  | _, [] => none
  | k, x :: r => if isB 256 x = false ∨ size = some (k : Int) then some k else wpF size (k + 1) r
def szV : Option Int → Val
  | none => .non
  | some i => .int i
theorem wp_loop {st : Sto} {v : Val} {size : Option Int} {D : Dn} : ∀ (xs : List Val) (k : Nat) (e2 e3 : Option Val), (∀ x ∈ xs, Pl st x) → (∀ a, wpF size k xs = some a → D.rt (.int a) st) → (wpF size k xs = none → ∀ e2 e3, D.nx [some v, some (szV size), e2, e3] st) →
    OkS (forL [] (gTup' 2 (gCons' (gNm 2) (gCons' (gNm 3) gNil'))) (sIf (tOr' (tNot' (tVal (eCallF m_is_below [.inl 0, .inl 1] [] (aCons (eVar 3) (aCons (eC (.int 256)) aNil))))) (tVal (eOp (oEq false) (eVar 2) (eVar 1)))) (sRet (eVar 2)) sNil) (enumF k xs) [some v, some (szV size), e2, e3] st) D
  | [], k, e2, e3, _, _, h => by
    simpa [enumF, forL] using h rfl e2 e3
  | x :: r, k, e2, e3, hp, h1, h2 => by
    have hx := hp x List.mem_cons_self
    have hr : ∀ y ∈ r, Pl st y := fun y hy => hp y (List.mem_cons_of_mem _ hy)
    have body : (sIf (tOr' (tNot' (tVal (eCallF m_is_below [.inl 0, .inl 1] [] (aCons (eVar 3) (aCons (eC (.int 256)) aNil))))) (tVal (eOp (oEq false) (eVar 2) (eVar 1)))) (sRet (eVar 2)) sNil) [some v, some (szV size), some (.int (k : Int)), some x] st
        = if isB 256 x = false ∨ size = some (k : Int) then .rt (.int k) st else .nx [some v, some (szV size), some (.int (k : Int)), some x] st := by
      cases hb : isB 256 x with
      | false => simp [getV_ok hx.ok, arr, is_below_ok hx, hb]
      | true =>
        cases size with
        | none => simp [getV_ok hx.ok, arr, is_below_ok hx, hb, szV, oEq_int_non]
        | some z =>
          by_cases hz : (k : Int) = z
          · subst hz
            simp [getV_ok hx.ok, arr, is_below_ok hx, hb, szV, oEq_int]
          · have hz' : ¬ z = (k : Int) := fun h => hz h.symm
            simp [getV_ok hx.ok, arr, is_below_ok hx, hb, szV, oEq_int, hz, hz']
    unfold enumF forL
    rw [if_pos (by simp)]
    have g1 : gTup' 2 (gCons' (gNm 2) (gCons' (gNm 3) gNil')) (.tup [.int (k : Int), x]) [some v, some (szV size), e2, e3] = some [some v, some (szV size), some (.int (k : Int)), some x] := by
      simp [gTup', gCons', gNm, gNil']
    rw [g1]
    unfold wpF at h1 h2
    by_cases hc : isB 256 x = false ∨ size = some (k : Int)
    · rw [if_pos hc] at h1 body
      simp only [onG, body]
      exact h1 k rfl
    · rw [if_neg hc] at h1 h2 body
      simp only [onG, body]
      exact wp_loop r (k + 1) _ _ hr h1 h2
def wpR (size : Option Int) (xs : List Val) : Val := match wpF size 0 xs with
  | some a => .int a
  | none => match size with
    | some z => if (xs.length : Int) < z then .int xs.length else .non
    | none => .non
theorem oLen_tup (xs : List Val) (st : Sto) : oLen (.tup xs) st = .ok (.int xs.length) st := rfl
theorem wrong_place_ok {st : Sto} {xs : List Val} {size : Option Int} (hp : ∀ x ∈ xs, Pl st x) : m_wrong_place [.tup xs, szV size] st = .ok (wpR size xs) st := by
  have h : Ok (m_wrong_place [.tup xs, szV size] st) fun a s => a = wpR size xs ∧ s = st := by
    unfold m_wrong_place b_wrong_place
    have hs : getV (some (some (szV size))) st = .ok (szV size) st := by cases size <;> rfl
    simp only [Ok_run, OkS_seq, sFor_eq, OkS_to, iEnum', eVar_eq]
    simp only [List.map_cons, List.map_nil, List.length_cons, List.length_nil, List.cons_append, List.nil_append, List.replicate, List.getElem?_cons_zero, getV_tup, R.bind_ok, Ok_ok, enumV_eq]
    refine wp_loop xs 0 none none hp (fun a ha => ?_) fun hn e2 e3 => ?_
    · simp [wpR, ha]
    · cases size with
      | none => simp [wpR, hn, szV, oIsN]
      | some z => by_cases hz : (xs.length : Int) < z <;> simp [wpR, hn, szV, oIsN, one', oLen_tup, oInt_eq, hz]
  obtain ⟨a, s, e, e1, e2⟩ := Ok_iff.mp h
  rw [e, e1, e2]

/-! ### octets -/
def isOct : Val → Bool
  | .tup xs => xs.all (isB 256)
  | _ => false
theorem wpF_none : ∀ (xs : List Val) (k : Nat), (wpF none k xs = none) ↔ xs.all (isB 256) = true
  | [], _ => by simp [wpF]
  | x :: r, k => by
    unfold wpF
    cases h : isB 256 x with
    | false => simp [h]
    | true => simp [h, wpF_none r (k + 1)]
theorem is_octets_ok {st : Sto} {x : Val} (h : Pl st x) (hk : ∀ xs, x ≠ .kt xs) (hp : ∀ xs, x = .tup xs → ∀ y ∈ xs, Pl st y) : m_is_octets [x] st = .ok (.bl (isOct x)) st := by
  cases x with
  | tup xs =>
    have w := wrong_place_ok (size := none) (hp xs rfl)
    have e : szV none = .non := rfl
    rw [e] at w
    have k1 : oIsN false (wpR none xs) .non st = .ok (.bl (xs.all (isB 256))) st := by
      cases q : wpF none 0 xs with
      | none =>
        have := (wpF_none xs 0).mp q
        simp [wpR, q, oIsN, this]
      | some a =>
        have : ¬ xs.all (isB 256) = true := fun z => by rw [(wpF_none xs 0).mpr z] at q; cases q
        simp only [Bool.not_eq_true] at this
        simp [wpR, q, oIsN, this]
    have k2 : okV (wpR none xs) = true := by unfold wpR; cases wpF none 0 xs <;> rfl
    simp [m_is_octets, runB, b_is_octets, two', oIsi, tyName, kit_tt, arr, w, isOct, k1]
  | kt xs => exact absurd rfl (hk xs)
  | loc l =>
    obtain ⟨xs, hx⟩ := h
    simp [m_is_octets, runB, b_is_octets, two', oIsi, tyName, kit_lt, hx, isOct]
  | scr _ => exact h.elim
  | fn _ => exact h.elim
  | cl _ => exact h.elim
  | ty _ => exact h.elim
  | exc _ _ => exact h.elim
  | _ => simp [m_is_octets, runB, b_is_octets, two', oIsi, tyName, kit_it, kit_bt, kit_nt, kit_st, isOct]
theorem pl_ivs {st : Sto} {bs : List Int} : ∀ x ∈ ivs bs, Pl st x := fun x hx => by
  obtain ⟨i, _, rfl⟩ := List.mem_map.mp hx
  trivial
theorem wpF_oct {size : Option Int} : ∀ (bs : List Int) (k : Nat), Oct bs → (∀ j : Nat, k ≤ j → j < k + bs.length → size ≠ some (j : Int)) → wpF size k (ivs bs) = none
  | [], _, _, _ => rfl
  | b :: r, k, h, hs => by
    obtain ⟨h1, h2⟩ := h b List.mem_cons_self
    rw [ivs_cons]
    unfold wpF
    rw [if_neg]
    · exact wpF_oct r (k + 1) (fun x hx => h x (List.mem_cons_of_mem _ hx)) fun j h3 h4 => hs j (by omega) (by simp only [List.length_cons]; omega)
    · rintro (z | z)
      · simp [isB, h1, h2] at z
      · exact hs k (Nat.le_refl _) (by simp) z
theorem isOct_ivs {bs : List Int} (h : Oct bs) : isOct (.tup (ivs bs)) = true := (wpF_none _ 0).mp (wpF_oct bs 0 h fun _ _ _ z => by cases z)
theorem need_octets_ok {st : Sto} {bs : List Int} (h : Oct bs) (hl : bs.length = 8) : m_need_octets [.tup (ivs bs), .int 8] st = .ok .non st := by
  have w := wrong_place_ok (st := st) (size := some 8) (xs := ivs bs) pl_ivs
  have e : wpR (some 8) (ivs bs) = .non := by
    unfold wpR
    rw [wpF_oct bs 0 h fun j _ h2 z => by injection z with z; omega]
    simp [hl]
  rw [e] at w
  simp [szV] at w
  simp [m_need_octets, runB, b_need_octets, sSeq, two', oIsi, tyName, kit_tt, arr, w, oIsN]
/-! ### the shapes of Sm16 .. Sm19 -/
theorem number_of_eq : m_number_of = runB 3 numB := rfl
theorem lnumber_eq : m__law_number = runB 3 numB := rfl
theorem octets_of_eq : m_octets_of = runB 5 octB := rfl
theorem llow_eq : m__law_low = runB 4 lowB := rfl
theorem lany_eq : m__law_any = runB 3 (anyB 48271 83 64) := rfl
theorem lof_eq : m__law_of = runB 2 (ofB m__law_any) := rfl
theorem loctets_eq : m__law_octets = runB 3 (octetsB m__law_any) := rfl
theorem ldeal_eq : m__law_deal = runB 5 (dealB (eOp oAdd (eOp oMul (eC (.int 40127)) (eVar 1)) (eC (.int 863))) 48271 2147483579 61) := rfl
theorem any_ok' : AnyOk m__law_any := by rw [lany_eq]; exact anyOk (by decide) (by decide) (by decide) (by decide) (by decide)
theorem deal_law {ns : List Int} : Ok (m__law_deal [.scr ns, .int 78] []) fun v s => ∃ d c, v = .loc d ∧ Deal s d c := by
  rw [ldeal_eq]
  refine deal_ok (by decide) (by decide) (by decide) (by decide) fun e2 e3 st => ⟨40127 * 78 + 863, ?_, by decide, by decide⟩
  have : oMul (.int 40127) (.int 78) st = .ok (.int (40127 * 78)) st := oMul_int (a := 16) (b := 7) (by decide) (by decide) (by decide)
  simp [this, oAdd_int]
/-! ### both ways round -/
theorem big_number_ok {st : Sto} {bs : List Int} (h : Oct bs) (hl : bs.length ≤ 1000) : m_big_number_of [.tup (ivs bs)] st = .ok (.int (nm bs.reverse)) st := by
  have e : (ivs bs).reverse = ivs bs.reverse := by unfold ivs; rw [List.map_reverse]
  have w := num_ok (st := st) (v := .tup (ivs bs.reverse)) (bs := bs.reverse) rfl (fun x hx => h x (List.mem_reverse.mp hx)) (by simpa using hl)
  simp [m_big_number_of, runB, b_big_number_of, tupOf, e, arr, number_of_eq] 
  simp [runB] at w
  simp [w]
end Lw

namespace Lw
open PySem L2 Sm
/-! ### slices -/
theorem cut_from {α : Type} (xs : List α) (a : Nat) {z : Int} (hz : z = (a : Int)) : cutL xs (some z) none = xs.drop a := by
  subst hz
  unfold cutL
  rw [HT.sIx_nat, HT.sIx_none]
  by_cases h : a ≤ xs.length
  · rw [Nat.min_eq_left h]
    exact List.take_of_length_le (by simp)
  · rw [Nat.min_eq_right (by omega), List.drop_eq_nil_of_le (Nat.le_refl _), List.drop_eq_nil_of_le (by omega)]
    simp
theorem cut_to {α : Type} (xs : List α) (a : Nat) {z : Int} (hz : z = (a : Int)) : cutL xs none (some z) = xs.take a := by
  subst hz
  unfold cutL
  rw [HT.sIx_nat, HT.sIx_none, List.drop_zero, Nat.sub_zero]
  by_cases h : a ≤ xs.length
  · rw [Nat.min_eq_left h]
  · rw [Nat.min_eq_right (by omega), List.take_of_length_le (Nat.le_refl _), List.take_of_length_le (by omega)]
theorem cut_mid {α : Type} (xs : List α) (a b : Nat) {y z : Int} (hy : y = (a : Int)) (hz : z = (b : Int)) : cutL xs (some y) (some z) = (xs.drop a).take (b - a) := by
  subst hy hz
  unfold cutL
  rw [HT.sIx_nat, HT.sIx_nat]
  by_cases h : a ≤ xs.length
  · rw [Nat.min_eq_left h]
    by_cases h2 : b ≤ xs.length
    · rw [Nat.min_eq_left h2]
    · rw [Nat.min_eq_right (a := b) (by omega)]
      rw [List.take_of_length_le (by simp), List.take_of_length_le (by simp; omega)]
  · rw [Nat.min_eq_right (a := a) (by omega), List.drop_eq_nil_of_le (Nat.le_refl _), List.drop_eq_nil_of_le (by omega)]
    simp
theorem cut_ivs (xs : List Int) (l h : Option Int) : cutL (ivs xs) l h = ivs (cutL xs l h) := by unfold cutL ivs; rw [List.map_take, List.map_drop, List.length_map]
theorem cut_whole {α : Type} (xs : List α) (l h : Option Int) (hc : HT.sIx xs.length 0 l = 0 ∧ HT.sIx xs.length xs.length h = xs.length) : cutL xs l h = xs := by
  unfold cutL
  rw [hc.1, hc.2]
  simp
theorem sl_tup {xs : List Val} {o : Ex} {lo hi : Ox} {l h : Option Int} {env : Sm.Env} {st : Sto} (h1 : o env st = .ok (.tup xs) st) (h2 : lo env st = .ok l st) (h3 : hi env st = .ok h st) : eSl o lo hi env st = .ok (.tup (cutL xs l h)) st := by
  rw [eSl_eq, h1, R.bind_ok, h2, R.bind_ok, h3, R.bind_ok]
  show R.ok (if HT.sIx xs.length 0 l = 0 ∧ HT.sIx xs.length xs.length h = xs.length then Val.tup xs else .tup (cutL xs l h)) st = _
  split
  · rename_i hc; rw [cut_whole xs l h hc]
  · rfl
theorem slFrom {bs : List Int} {a : Nat} {z : Int} {i : Nat} {env : Sm.Env} {st : Sto} (he : env[i]? = some (some (.tup (ivs bs)))) (hz : z = (a : Int)) : eSl (eVar i) (oPart (eC (.int z))) oNoP env st = .ok (.tup (ivs (bs.drop a))) st := by
  rw [sl_tup (xs := ivs bs) (l := some z) (h := none) (by rw [eVar_eq, he]; rfl) rfl rfl, cut_ivs, cut_from bs a hz]
theorem slTo {bs : List Int} {a : Nat} {z : Int} {i : Nat} {env : Sm.Env} {st : Sto} (he : env[i]? = some (some (.tup (ivs bs)))) (hz : z = (a : Int)) : eSl (eVar i) oNoP (oPart (eC (.int z))) env st = .ok (.tup (ivs (bs.take a))) st := by
  rw [sl_tup (xs := ivs bs) (l := none) (h := some z) (by rw [eVar_eq, he]; rfl) rfl rfl, cut_ivs, cut_to bs a hz]
theorem slMid {bs : List Int} {a b : Nat} {y z : Int} {i : Nat} {env : Sm.Env} {st : Sto} (he : env[i]? = some (some (.tup (ivs bs)))) (hy : y = (a : Int)) (hz : z = (b : Int)) : eSl (eVar i) (oPart (eC (.int y))) (oPart (eC (.int z))) env st = .ok (.tup (ivs ((bs.drop a).take (b - a)))) st := by
  rw [sl_tup (xs := ivs bs) (l := some y) (h := some z) (by rw [eVar_eq, he]; rfl) rfl rfl, cut_ivs, cut_mid bs a b hy hz]
theorem oct_drop {bs : List Int} (h : Oct bs) (n : Nat) : Oct (bs.drop n) := fun x hx => h x (List.mem_of_mem_drop hx)
theorem oct_take {bs : List Int} (h : Oct bs) (n : Nat) : Oct (bs.take n) := fun x hx => h x (List.mem_of_mem_take hx)
theorem ix_ivs {bs : List Int} {j : Nat} {z : Int} {st : Sto} (h : j < bs.length) (hz : z = (j : Int)) : oIx (.tup (ivs bs)) (.int z) st = .ok (.int bs[j]) st := by
  subst hz
  have : atI (ivs bs) (j : Int) = some (.int bs[j]) := atI_nat (by rw [ivs_get, List.getElem?_eq_getElem h]; rfl)
  simp [oIx, seqOf, this]
theorem exp_ivs : ∀ {xs : List Val}, xs.all (isB 256) = true → ∃ bs, xs = ivs bs ∧ Oct bs
  | [], _ => ⟨[], rfl, fun x hx => by cases hx⟩
  | x :: r, h => by
    rw [List.all_cons, Bool.and_eq_true] at h
    obtain ⟨bs, e, ho⟩ := exp_ivs h.2
    cases x with
    | int i =>
      have h1 := h.1
      simp only [isB, Bool.and_eq_true, decide_eq_true_eq] at h1
      refine ⟨i :: bs, by rw [e]; rfl, fun y hy => ?_⟩
      rcases List.mem_cons.mp hy with w | w
      · rw [w]; exact h1
      · exact ho y w
    | _ => exact absurd h.1 (by simp [isB])
/-! ### read_datagram -/
/-- what a datagram tells; or the place that is wrong -/
def rdB (bs : List Int) : Except Int Val := match bs with
  | [] => .error 0
  | b :: r => if b < 1 ∨ 3 < b then .error 0 else if ((bs.length : Nat) : Int) < (if b = 1 then 1 else if b = 2 then 5 else 13) then .error bs.length else
    if b = 1 then .ok (.tup [.str "first", .tup (ivs (bs.drop 1))]) else
    if b = 2 then .ok (.tup [.str "answer", .int (nm ((bs.drop 1).take 4)), .tup (ivs (bs.drop 5))]) else
    if 9223372036854775808 ≤ nm ((bs.drop 5).take 8) then .error 12 else .ok (.tup [.str "sealed", .int (nm ((bs.drop 1).take 4)), .int (nm ((bs.drop 5).take 8)), .tup (ivs (bs.drop 13))])
theorem is_counter_ok {st : Sto} {n : Int} (h : 0 ≤ n) : m_is_counter [.int n] st = .ok (.bl (decide (n < 9223372036854775808))) st := by
  have := is_integer_ok (st := st) (x := .int n) trivial
  simp [m_is_counter, runB, b_is_counter, arr, this, isI, oInt_eq, h]
theorem num_ivs {bs : List Int} {st : Sto} (h : Oct bs) (hl : bs.length ≤ 1000) : m_number_of [.tup (ivs bs)] st = .ok (.int (nm bs)) st := num_ok rfl h hl
theorem read_datagram_bad {st : Sto} {x : Val} (h : Pl st x) (hk : ∀ xs, x ≠ .kt xs) (hp : ∀ xs, x = .tup xs → ∀ y ∈ xs, Pl st y) (ho : isOct x = false) : m_read_datagram [x] st = .err ("InvalidLetter", [("at", .int (-1))]) st := by
  have w := is_octets_ok h hk hp
  rw [ho] at w
  simp [m_read_datagram, runB, b_read_datagram, getV_ok h.ok, arr, w, sSeq, sRaise, oNeg]
theorem read_datagram_ok {st : Sto} {bs : List Int} (h : Oct bs) (hl : bs.length ≤ 900) : m_read_datagram [.tup (ivs bs)] st = match rdB bs with
    | .error a => .err ("InvalidLetter", [("at", .int a)]) st
    | .ok v => .ok v st := by
  have w := is_octets_ok (st := st) (x := .tup (ivs bs)) trivial (fun _ => nofun) (fun xs e => by cases e; exact pl_ivs)
  rw [isOct_ivs h] at w
  have l1 : oLen (.tup (ivs bs)) st = .ok (.int bs.length) st := by rw [oLen_tup, ivs_length]
  cases bs with
  | nil =>
    simp only [ivs_nil] at w
    simp [m_read_datagram, runB, b_read_datagram, arr, w, sSeq, sRaise, one', oLen_tup, oEq_int, rdB]
  | cons b r =>
    obtain ⟨hb0, hb1⟩ := h b List.mem_cons_self
    have i0 : oIx (.tup (ivs (b :: r))) (.int 0) st = .ok (.int b) st := ix_ivs (j := 0) (by simp) rfl
    have hne : ¬ (((b :: r).length : Nat) : Int) = 0 := by simp only [List.length_cons]; omega
    by_cases c1 : b < 1 ∨ 3 < b
    · by_cases c2 : 1 ≤ b
      · have c3 : ¬ b ≤ 3 := by omega
        simp [-ivs_cons, m_read_datagram, runB, b_read_datagram, arr, w, sSeq, sRaise, one', l1, oEq_int, i0, oInt_eq, rdB, c1, c2, c3, hne]
      · simp [-ivs_cons, m_read_datagram, runB, b_read_datagram, arr, w, sSeq, sRaise, one', l1, oEq_int, i0, oInt_eq, rdB, c1, c2, hne]
    · have hk : b = 1 ∨ b = 2 ∨ b = 3 := by omega
      have o1 : ∀ st : Sto, oIx (.kt [.int 0, .int 1, .int 5, .int 13]) (.int 1) st = .ok (.int 1) st := fun _ => rfl
      have o2 : ∀ st : Sto, oIx (.kt [.int 0, .int 1, .int 5, .int 13]) (.int 2) st = .ok (.int 5) st := fun _ => rfl
      have o3 : ∀ st : Sto, oIx (.kt [.int 0, .int 1, .int 5, .int 13]) (.int 3) st = .ok (.int 13) st := fun _ => rfl
      have s1 : ∀ e : Option Val, eSl (eVar 0) (oPart (eC (.int 1))) oNoP [some (.tup (ivs (b :: r))), e] st = .ok (.tup (ivs ((b :: r).drop 1))) st := fun e => slFrom (a := 1) rfl rfl
      have s5 : ∀ e : Option Val, eSl (eVar 0) (oPart (eC (.int 5))) oNoP [some (.tup (ivs (b :: r))), e] st = .ok (.tup (ivs ((b :: r).drop 5))) st := fun e => slFrom (a := 5) rfl rfl
      have s13 : ∀ e : Option Val, eSl (eVar 0) (oPart (eC (.int 13))) oNoP [some (.tup (ivs (b :: r))), e] st = .ok (.tup (ivs ((b :: r).drop 13))) st := fun e => slFrom (a := 13) rfl rfl
      have t1 : ∀ e : Option Val, eSl (eVar 0) (oPart (eC (.int 1))) (oPart (eC (.int 5))) [some (.tup (ivs (b :: r))), e] st = .ok (.tup (ivs (((b :: r).drop 1).take 4))) st := fun e => slMid (a := 1) (b := 5) rfl rfl rfl
      have t5 : ∀ e : Option Val, eSl (eVar 0) (oPart (eC (.int 5))) (oPart (eC (.int 13))) [some (.tup (ivs (b :: r))), e] st = .ok (.tup (ivs (((b :: r).drop 5).take 8))) st := fun e => slMid (a := 5) (b := 13) rfl rfl rfl
      have n1 := num_ivs (st := st) (oct_take (oct_drop h 1) 4) (by simp; omega)
      have n5 := num_ivs (st := st) (oct_take (oct_drop h 5) 8) (by simp; omega)
      have k5 := is_counter_ok (st := st) (nm_bound (oct_take (oct_drop h 5) 8)).1
      generalize hd1 : (b :: r).drop 1 = d1 at *
      generalize hd5 : (b :: r).drop 5 = d5 at *
      generalize hd13 : (b :: r).drop 13 = d13 at *
      generalize hln : (((b :: r).length : Nat) : Int) = ln at *
      have hl1 : ¬ ln < 1 := by rw [← hln]; simp only [List.length_cons]; omega
      have hrd : rdB (b :: r) = if b < 1 ∨ 3 < b then .error 0 else if ln < (if b = 1 then 1 else if b = 2 then 5 else 13) then .error ln else
          if b = 1 then .ok (.tup [.str "first", .tup (ivs d1)]) else
          if b = 2 then .ok (.tup [.str "answer", .int (nm (d1.take 4)), .tup (ivs d5)]) else
          if 9223372036854775808 ≤ nm (d5.take 8) then .error 12 else .ok (.tup [.str "sealed", .int (nm (d1.take 4)), .int (nm (d5.take 8)), .tup (ivs d13)]) := by
        rw [← hd1, ← hd5, ← hd13, ← hln]; rfl
      rw [hrd]
      generalize ivs (b :: r) = vs at *
      rcases hk with rfl | rfl | rfl
      · simp [-eSl_eq, m_read_datagram, runB, b_read_datagram, arr, w, sSeq, sRaise, one', l1, oEq_int, i0, oInt_eq, hne, o1, hl1, s1]
      · by_cases c5 : ln < 5
        · simp [-eSl_eq, m_read_datagram, runB, b_read_datagram, arr, w, sSeq, sRaise, one', l1, oEq_int, i0, oInt_eq, hne, o2, c5]
        · simp [-eSl_eq, m_read_datagram, runB, b_read_datagram, arr, w, sSeq, sRaise, one', l1, oEq_int, i0, oInt_eq, hne, o2, c5, t1, n1, s5]
      · by_cases c13 : ln < 13
        · simp [-eSl_eq, m_read_datagram, runB, b_read_datagram, arr, w, sSeq, sRaise, one', l1, oEq_int, i0, oInt_eq, hne, o3, c13]
        · by_cases c63 : nm (d5.take 8) < 9223372036854775808
          · have c63' : ¬ 9223372036854775808 ≤ nm (d5.take 8) := by omega
            simp [-eSl_eq, m_read_datagram, runB, b_read_datagram, arr, w, sSeq, sRaise, one', l1, oEq_int, i0, oInt_eq, hne, o3, c13, t5, n5, k5, t1, n1, s13, c63, c63']
          · have c63' : 9223372036854775808 ≤ nm (d5.take 8) := by omega
            simp [-eSl_eq, m_read_datagram, runB, b_read_datagram, arr, w, sSeq, sRaise, one', l1, oEq_int, i0, oInt_eq, hne, o3, c13, t5, n5, k5, c63, c63']
end Lw

namespace Lw
open PySem L2 Sm
theorem ex1 : T_exm "InvalidLetter" "InvalidLetter" = some true := by decide +kernel
theorem ex2 : T_exm "InvalidOctets" "InvalidOctets" = some true := by decide +kernel
theorem ex3 : T_xf "InvalidLetter" "at" = true := by decide +kernel
theorem ex4 : T_isx "InvalidLetter" "TunnelError" = some true := by decide +kernel
theorem told_err {st : Sto} {x : Val} {a : Int} (hx : okV x = true) (h : m_read_datagram [x] st = .err ("InvalidLetter", [("at", .int a)]) st) : m__law_told [x] st = .ok (.loc st.length) (st ++ [Ob.lst [.str "wrong", .int a]]) := by
  have e5 : ("at" == ("at" : Str)) = true := by decide
  simp [m__law_told, runB, b__law_told, sTry, getV_ok hx, arr, h, clauses, ex1, goneS, noEr, eXis, ex4, eXf', ex3, List.lookup]
theorem told_ok {st : Sto} {x v : Val} (hx : okV x = true) (h : m_read_datagram [x] st = .ok v st) : m__law_told [x] st = .ok v st := by
  simp [m__law_told, runB, b__law_told, sTry, getV_ok hx, arr, h]
theorem lio_loop {st : Sto} {v : Val} {D : Dn} : ∀ (xs : List Val) (e1 : Option Val), (∀ x ∈ xs, Pl st x) → (xs.all (isB 256) = false → D.rt (.bl false) st) → (xs.all (isB 256) = true → ∀ e1, D.nx [some v, e1] st) →
    OkS (forL [] (gNm 1) (sIf (tOr' (tNot' (tVal (eCall (two' oIsi) (aCons (eVar 1) (aCons (eC (.ty "int")) aNil))))) (tOr' (tVal (eCall (two' oIsi) (aCons (eVar 1) (aCons (eC (.ty "bool")) aNil)))) (tOr' (tVal (eOp oLt (eVar 1) (eC (.int 0)))) (tVal (eOp oGt (eVar 1) (eC (.int 255))))))) (sRet (eC (.bl false))) sNil) xs [some v, e1] st) D
  | [], e1, _, _, h => by simpa [forL] using h rfl e1
  | x :: r, e1, hp, h1, h2 => by
    have hx := hp x List.mem_cons_self
    have hr : ∀ y ∈ r, Pl st y := fun y hy => hp y (List.mem_cons_of_mem _ hy)
    have body : (sIf (tOr' (tNot' (tVal (eCall (two' oIsi) (aCons (eVar 1) (aCons (eC (.ty "int")) aNil))))) (tOr' (tVal (eCall (two' oIsi) (aCons (eVar 1) (aCons (eC (.ty "bool")) aNil)))) (tOr' (tVal (eOp oLt (eVar 1) (eC (.int 0)))) (tVal (eOp oGt (eVar 1) (eC (.int 255))))))) (sRet (eC (.bl false))) sNil) [some v, some x] st
        = if isB 256 x = true then .nx [some v, some x] st else .rt (.bl false) st := by
      cases x with
      | int i =>
        by_cases c1 : i < 0
        · have : ¬ 0 ≤ i := by omega
          simp [two', oIsi, tyName, kit_ii, kit_ib, oInt_eq, isB, c1, this]
        · have c1' : 0 ≤ i := by omega
          by_cases c2 : 255 < i
          · have : ¬ i < 256 := by omega
            simp [two', oIsi, tyName, kit_ii, kit_ib, oInt_eq, isB, c1, c1', c2, this]
          · have : i < 256 := by omega
            simp [two', oIsi, tyName, kit_ii, kit_ib, oInt_eq, isB, c1, c1', c2, this]
      | loc l =>
        obtain ⟨ys, hy⟩ := hx
        simp [two', oIsi, tyName, hy, kit_li, isB]
      | scr _ => exact hx.elim
      | fn _ => exact hx.elim
      | cl _ => exact hx.elim
      | ty _ => exact hx.elim
      | exc _ _ => exact hx.elim
      | _ => simp [two', oIsi, tyName, kit_bi, kit_ni, kit_si, kit_ti, kit_bb, isB]
    unfold forL
    rw [if_pos (by simp)]
    have g1 : gNm 1 x [some v, e1] = some [some v, some x] := rfl
    rw [g1]
    rw [List.all_cons] at h1 h2
    cases hb : isB 256 x with
    | true =>
      rw [hb] at body h1 h2
      rw [if_pos rfl] at body
      rw [Bool.true_and] at h1 h2
      simp only [onG, body]
      exact lio_loop r _ hr h1 h2
    | false =>
      rw [hb] at body h1
      rw [if_neg (by simp)] at body
      simp only [onG, body]
      exact h1 (by simp)
theorem lis_octets_ok {st : Sto} {x : Val} (h : Pl st x) (hk : ∀ xs, x ≠ .kt xs) (hp : ∀ xs, x = .tup xs → ∀ y ∈ xs, Pl st y) : m__law_is_octets [x] st = .ok (.bl (isOct x)) st := by
  cases x with
  | tup xs =>
    have hh : Ok (m__law_is_octets [.tup xs] st) fun a s => a = .bl (isOct (.tup xs)) ∧ s = st := by
      unfold m__law_is_octets b__law_is_octets
      have c0 : (tNot' (tVal (eCall (two' oIsi) (aCons (eVar 0) (aCons (eC (.ty "tuple")) aNil))))) [some (.tup xs), none] st = .ok false st := by
        simp [two', oIsi, tyName, kit_tt]
      rw [Ok_run]
      simp only [List.map_cons, List.map_nil, List.length_cons, List.length_nil, List.cons_append, List.nil_append, List.replicate]
      rw [seq_if, c0, Ok_ok]
      simp only [Bool.false_eq_true, if_false, sNil_eq, OkS_nx]
      rw [seq_for]
      have i0 : iSeq (eVar 0) [some (.tup xs), none] st = .ok (xs, []) st := rfl
      rw [i0, Ok_ok]
      refine lio_loop xs none (hp xs rfl) (fun hf => ?_) fun ht e1 => ?_
      · simp [isOct, hf]
      · simp only [OkS_ret, eC_eq, Ok_ok]
        exact ⟨by simp only [isOct, ht], trivial⟩
    exact Ok_eq hh
  | kt xs => exact absurd rfl (hk xs)
  | loc l =>
    obtain ⟨xs, hx⟩ := h
    simp [m__law_is_octets, runB, b__law_is_octets, two', oIsi, tyName, kit_lt, hx, isOct, sSeq]
  | scr _ => exact h.elim
  | fn _ => exact h.elim
  | cl _ => exact h.elim
  | ty _ => exact h.elim
  | exc _ _ => exact h.elim
  | _ => simp [m__law_is_octets, runB, b__law_is_octets, two', oIsi, tyName, kit_it, kit_bt, kit_nt, kit_st, isOct, sSeq]
/-! ### the law's own reader -/
theorem oIn_ivs {st : Sto} {l : Nat} {ys : List Int} {b : Int} (h : st[l]? = some (.lst (ivs ys))) : oIn true (.int b) (.loc l) st = .ok (.bl (!ys.any fun y => decide (y = b))) st := by
  have e1 : pd st deep (.int b) = some (.int b) := pd_int st deep b
  have e2 : pd st deep (.loc l) = some (.list (ys.map PyData.int)) := Pd.lst (k := 0) h (PdA.ivs ys) deep (by decide)
  have e3 : SeqAt.shaped (.int b) = true := by simp [SeqAt.shaped, PyData.canLay0, PyData.depth]
  have e4 : ((ys.map PyData.int).any fun z => PyData.eqv z (.int b)) = ys.any fun y => decide (y = b) := by
    rw [List.any_map]
    exact congrArg (fun f => ys.any f) (funext fun y => eqv_int y b)
  unfold oIn
  rw [e1, e2]
  simp only [e3, shaped_ivsL, Bool.and_self, if_true, e4]
theorem top12 {bs : List Int} (h : Oct bs) (hl : 13 ≤ bs.length) : ∃ (hk : 12 < bs.length), (127 < bs[12]) ↔ 9223372036854775808 ≤ nm ((bs.drop 5).take 8) := by
  refine ⟨by omega, ?_⟩
  have e : (bs.drop 5).take 8 = (bs.drop 5).take 7 ++ [bs[12]] := by
    rw [List.take_succ (i := 7), List.getElem?_drop, List.getElem?_eq_getElem (by omega)]
    rfl
  have l7 : ((bs.drop 5).take 7).length = 7 := by simp; omega
  have b7 := nm_bound (oct_take (oct_drop h 5) 7)
  rw [l7] at b7
  rw [e, nm_append, l7]
  simp only [nm, Int.mul_zero, Int.add_zero]
  omega

/-- how the reader's answer stands -/
def RdOk (st : Sto) (v : Val) (s : Sto) (r : Except Int Val) : Prop := st <+: s ∧ match r with
  | .error a => ∃ l, v = .loc l ∧ s[l]? = some (.lst [.str "wrong", .int a])
  | .ok w => v = w
theorem rdok_new {st : Sto} {a : Int} (e : Sto) : RdOk st (.loc (st ++ e).length) (st ++ e ++ [Ob.lst [.str "wrong", .int a]]) (.error a) :=
  ⟨⟨e ++ [Ob.lst [.str "wrong", .int a]], by rw [List.append_assoc]⟩, _, rfl, at_new⟩
theorem lread_bad {st : Sto} {x : Val} (h : Pl st x) (hk : ∀ xs, x ≠ .kt xs) (hp : ∀ xs, x = .tup xs → ∀ y ∈ xs, Pl st y) (ho : isOct x = false) : Ok (m__law_read [x] st) fun v s => RdOk st v s (.error (-1)) := by
  have w := lis_octets_ok h hk hp
  rw [ho] at w
  have e : m__law_read [x] st = .ok (.loc st.length) (st ++ [Ob.lst [.str "wrong", .int (-1)]]) := by
    simp [m__law_read, runB, b__law_read, getV_ok h.ok, arr, w, sSeq, oNeg]
  rw [e, Ok_ok]
  exact ⟨⟨_, rfl⟩, _, rfl, at_new⟩
theorem lread_ok {st : Sto} {bs : List Int} (h : Oct bs) (hl : bs.length ≤ 900) : Ok (m__law_read [.tup (ivs bs)] st) fun v s => RdOk st v s (rdB bs) := by
  have w := lis_octets_ok (st := st) (x := .tup (ivs bs)) trivial (fun _ => nofun) (fun xs e => by cases e; exact pl_ivs)
  rw [isOct_ivs h] at w
  have l1 : ∀ st, oLen (.tup (ivs bs)) st = .ok (.int bs.length) st := fun st => by rw [oLen_tup, ivs_length]
  cases bs with
  | nil =>
    simp only [ivs_nil] at w
    have e : m__law_read [.tup (ivs [])] st = .ok (.loc st.length) (st ++ [Ob.lst [.str "wrong", .int 0]]) := by
      simp [m__law_read, runB, b__law_read, arr, w, sSeq, one', oLen_tup, oEq_int]
    rw [e, Ok_ok]
    exact ⟨⟨_, rfl⟩, _, rfl, at_new⟩
  | cons b r =>
    have hne : ¬ (((b :: r).length : Nat) : Int) = 0 := by simp only [List.length_cons]; omega
    have i0 : ∀ st, oIx (.tup (ivs (b :: r))) (.int 0) st = .ok (.int b) st := fun st => ix_ivs (j := 0) (by simp) rfl
    obtain ⟨hb0, hb1⟩ := h b List.mem_cons_self
    have q1 : oIn true (.int b) (.loc st.length) (st ++ [Ob.lst [.int 1, .int 2, .int 3]]) = .ok (.bl (!([1, 2, 3] : List Int).any fun y => decide (y = b))) (st ++ [Ob.lst [.int 1, .int 2, .int 3]]) := oIn_ivs (ys := [1, 2, 3]) at_new
    by_cases c1 : b < 1 ∨ 3 < b
    · have q2 : (([1, 2, 3] : List Int).any fun y => decide (y = b)) = false := by
        simp; omega
      rw [q2] at q1
      have e : m__law_read [.tup (ivs (b :: r))] st = .ok (.loc (st ++ [Ob.lst [.int 1, .int 2, .int 3]]).length) (st ++ [Ob.lst [.int 1, .int 2, .int 3]] ++ [Ob.lst [.str "wrong", .int 0]]) := by
        have hne' : ¬ (r.length : Int) + 1 = 0 := by omega
        simp [-ivs_cons, m__law_read, runB, b__law_read, arr, w, sSeq, one', l1, oEq_int, i0, hne', q1]
      have hr : rdB (b :: r) = .error 0 := by simp [rdB, c1]
      rw [e, Ok_ok, hr]
      exact rdok_new _
    · have hk : b = 1 ∨ b = 2 ∨ b = 3 := by omega
      have q2 : (([1, 2, 3] : List Int).any fun y => decide (y = b)) = true := by
        simp; omega
      rw [q2] at q1
      generalize hs2 : st ++ [Ob.lst [.int 1, .int 2, .int 3]] = s2 at *
      generalize hs3 : s2 ++ [Ob.lst [.int 0, .int 1, .int 5, .int 13]] = s3 at *
      have pre : st <+: s3 := by rw [← hs3, ← hs2]; exact ⟨_, by rw [List.append_assoc]⟩
      have n3 : s3[s2.length]? = some (.lst [.int 0, .int 1, .int 5, .int 13]) := by rw [← hs3]; exact at_new
      have o1 : oIx (.loc s2.length) (.int 1) s3 = .ok (.int 1) s3 := by simp [oIx, seqOf, n3, atI_one]
      have o2 : oIx (.loc s2.length) (.int 2) s3 = .ok (.int 5) s3 := by
        have : atI [Val.int 0, .int 1, .int 5, .int 13] 2 = some (.int 5) := atI_nat (j := 2) rfl
        simp [oIx, seqOf, n3, this]
      have o3 : oIx (.loc s2.length) (.int 3) s3 = .ok (.int 13) s3 := by
        have : atI [Val.int 0, .int 1, .int 5, .int 13] 3 = some (.int 13) := atI_nat (j := 3) rfl
        simp [oIx, seqOf, n3, this]
      have s1 : ∀ e : Option Val, eSl (eVar 0) (oPart (eC (.int 1))) oNoP [some (.tup (ivs (b :: r))), e] s3 = .ok (.tup (ivs ((b :: r).drop 1))) s3 := fun e => slFrom (a := 1) rfl rfl
      have s5 : ∀ e : Option Val, eSl (eVar 0) (oPart (eC (.int 5))) oNoP [some (.tup (ivs (b :: r))), e] s3 = .ok (.tup (ivs ((b :: r).drop 5))) s3 := fun e => slFrom (a := 5) rfl rfl
      have s13 : ∀ e : Option Val, eSl (eVar 0) (oPart (eC (.int 13))) oNoP [some (.tup (ivs (b :: r))), e] s3 = .ok (.tup (ivs ((b :: r).drop 13))) s3 := fun e => slFrom (a := 13) rfl rfl
      have t1 : ∀ e : Option Val, eSl (eVar 0) (oPart (eC (.int 1))) (oPart (eC (.int 5))) [some (.tup (ivs (b :: r))), e] s3 = .ok (.tup (ivs (((b :: r).drop 1).take 4))) s3 := fun e => slMid (a := 1) (b := 5) rfl rfl rfl
      have t5 : ∀ e : Option Val, eSl (eVar 0) (oPart (eC (.int 5))) (oPart (eC (.int 13))) [some (.tup (ivs (b :: r))), e] s3 = .ok (.tup (ivs (((b :: r).drop 5).take 8))) s3 := fun e => slMid (a := 5) (b := 13) rfl rfl rfl
      have n1 : m__law_number [.tup (ivs (((b :: r).drop 1).take 4))] s3 = .ok (.int (nm (((b :: r).drop 1).take 4))) s3 := num_ok rfl (oct_take (oct_drop h 1) 4) (by simp; omega)
      have n5 : m__law_number [.tup (ivs (((b :: r).drop 5).take 8))] s3 = .ok (.int (nm (((b :: r).drop 5).take 8))) s3 := num_ok rfl (oct_take (oct_drop h 5) 8) (by simp; omega)
      have t12 : 13 ≤ (b :: r).length → ∃ z, oIx (.tup (ivs (b :: r))) (.int 12) s3 = .ok (.int z) s3 ∧ (127 < z ↔ 9223372036854775808 ≤ nm (((b :: r).drop 5).take 8)) := fun hge => by
        obtain ⟨hk, e⟩ := top12 h hge
        exact ⟨_, ix_ivs (j := 12) hk rfl, e⟩
      have hlg : 13 ≤ (b :: r).length ↔ ¬ (((b :: r).length : Nat) : Int) < 13 := by omega
      rw [hlg] at t12
      generalize hd1 : (b :: r).drop 1 = d1 at *
      generalize hd5 : (b :: r).drop 5 = d5 at *
      generalize hd13 : (b :: r).drop 13 = d13 at *
      generalize hln : (((b :: r).length : Nat) : Int) = ln at *
      have hl1 : ¬ ln < 1 := by rw [← hln]; simp only [List.length_cons]; omega
      have hrd : rdB (b :: r) = if b < 1 ∨ 3 < b then .error 0 else if ln < (if b = 1 then 1 else if b = 2 then 5 else 13) then .error ln else
          if b = 1 then .ok (.tup [.str "first", .tup (ivs d1)]) else
          if b = 2 then .ok (.tup [.str "answer", .int (nm (d1.take 4)), .tup (ivs d5)]) else
          if 9223372036854775808 ≤ nm (d5.take 8) then .error 12 else .ok (.tup [.str "sealed", .int (nm (d1.take 4)), .int (nm (d5.take 8)), .tup (ivs d13)]) := by
        rw [← hd1, ← hd5, ← hd13, ← hln]; rfl
      rw [hrd]
      generalize ivs (b :: r) = vs at *
      rcases hk with rfl | rfl | rfl
      · have e : m__law_read [.tup vs] st = .ok (.tup [.str "first", .tup (ivs d1)]) s3 := by
          simp [-eSl_eq, m__law_read, runB, b__law_read, arr, w, sSeq, one', l1, oEq_int, i0, oInt_eq, hne, q1, hs2, hs3, o1, hl1, s1]
        rw [e]
        simp [RdOk, hl1, pre]
      · by_cases c5 : ln < 5
        · have e : m__law_read [.tup vs] st = .ok (.loc s3.length) (s3 ++ [Ob.lst [.str "wrong", .int ln]]) := by
            simp [-eSl_eq, m__law_read, runB, b__law_read, arr, w, sSeq, one', l1, oEq_int, i0, oInt_eq, hne, q1, hs2, hs3, o2, c5]
          rw [e]
          simp [RdOk, c5, pre.trans (List.prefix_append _ _)]
        · have e : m__law_read [.tup vs] st = .ok (.tup [.str "answer", .int (nm (d1.take 4)), .tup (ivs d5)]) s3 := by
            simp [-eSl_eq, m__law_read, runB, b__law_read, arr, w, sSeq, one', l1, oEq_int, i0, oInt_eq, hne, q1, hs2, hs3, o2, c5, t1, n1, s5]
          rw [e]
          simp [RdOk, c5, pre]
      · by_cases c13 : ln < 13
        · have e : m__law_read [.tup vs] st = .ok (.loc s3.length) (s3 ++ [Ob.lst [.str "wrong", .int ln]]) := by
            simp [-eSl_eq, m__law_read, runB, b__law_read, arr, w, sSeq, one', l1, oEq_int, i0, oInt_eq, hne, q1, hs2, hs3, o3, c13]
          rw [e]
          simp [RdOk, c13, pre.trans (List.prefix_append _ _)]
        · obtain ⟨z, z1, z2⟩ := t12 c13
          by_cases c63 : 9223372036854775808 ≤ nm (d5.take 8)
          · have hz := z2.mpr c63
            have e : m__law_read [.tup vs] st = .ok (.loc s3.length) (s3 ++ [Ob.lst [.str "wrong", .int 12]]) := by
              simp [-eSl_eq, m__law_read, runB, b__law_read, arr, w, sSeq, one', l1, oEq_int, i0, oInt_eq, hne, q1, hs2, hs3, o3, c13, t1, n1, z1, hz]
            rw [e]
            simp [RdOk, c13, c63, pre.trans (List.prefix_append _ _)]
          · have hz : ¬ 127 < z := fun q => c63 (z2.mp q)
            have e : m__law_read [.tup vs] st = .ok (.tup [.str "sealed", .int (nm (d1.take 4)), .int (nm (d5.take 8)), .tup (ivs d13)]) s3 := by
              simp [-eSl_eq, m__law_read, runB, b__law_read, arr, w, sSeq, one', l1, oEq_int, i0, oInt_eq, hne, q1, hs2, hs3, o3, c13, t1, n1, z1, hz, t5, n5, s13]
            rw [e]
            simp [RdOk, c13, c63, pre]
end Lw

namespace Lw
open PySem L2 Sm
/-- a value to be read: octets, or something else -/
def VOk (s : Sto) (v : Val) : Prop := (∃ bs, v = .tup (ivs bs) ∧ Oct bs ∧ bs.length ≤ 900) ∨ (Pl s v ∧ (∀ xs, v ≠ .kt xs) ∧ (∀ xs, v = .tup xs → ∀ y ∈ xs, Pl s y) ∧ isOct v = false)
theorem of_call {st : Sto} {d c l : Nat} {xs : List Val} {Q : Val → Sto → Prop} (h : Deal st d c) (hl : st[l]? = some (.lst xs)) (h1 : l ≠ d) (h2 : l ≠ c) (hx : xs ≠ []) (hz : xs.length < 16777216) (k : ∀ v s, v ∈ xs → Deal s d c → Fr d c st s → Q v s) : Ok (m__law_of [.loc d, .loc l] st) Q := by
  rw [lof_eq]
  exact (of_ok any_ok' h hl h1 h2 hx hz).imp fun v s ⟨a, b, e⟩ => k v s a b e
theorem octets_call {st : Sto} {d c k : Nat} {z : Int} {Q : Val → Sto → Prop} (hz : z = (k : Int)) (hk : k ≤ 1000) (h : Deal st d c) (kk : ∀ bs s, bs.length = k → Oct bs → Deal s d c → Fr d c st s → Q (.tup (ivs bs)) s) : Ok (m__law_octets [.loc d, .int z] st) Q := by
  rw [loctets_eq]
  exact (octets_ok any_ok' hz hk h).imp fun v s ⟨bs, e, a, b, f, g⟩ => by subst e; exact kk bs s a b f g
theorem value_ok {st : Sto} {d c : Nat} (h : Deal st d c) : Ok (m__law_value [.loc d] st) fun v s => VOk s v ∧ Deal s d c ∧ Fr d c st s := by
  obtain ⟨hd, hc, hdc⟩ := h.lt
  unfold m__law_value b__law_value
  rw [Ok_run]
  simp only [List.map_cons, List.map_nil, List.length_cons, List.length_nil, List.cons_append, List.nil_append, List.replicate]
  rw [seq_asg]
  simp only [Ok_callF, Ok_aCons, Ok_aNil, Ok_C, Ok_varI, List.getElem?_cons_zero, getV_loc, Ok_ok, arr, List.map_cons, List.map_nil, List.getD_cons_zero, List.getD_cons_succ]
  refine any_call any_ok' h (by decide) (by decide) fun kind s1 k0 k1 d1 f1 => ?_
  simp only [List.set_cons_succ, List.set_cons_zero]
  rw [seq_if]
  simp only [Ok_tVal, Ok_op, Ok_C, Ok_varI, List.getElem?_cons_zero, List.getElem?_cons_succ, getV_int, Ok_ok, oInt_eq, if_true]
  refine ⟨_, rfl, ?_⟩
  by_cases c6 : kind < 6
  · simp only [c6, decide_true, if_true]
    rw [seq_asg]
    simp only [Ok_callF, Ok_aCons, Ok_aNil, Ok_C, Ok_varI, List.getElem?_cons_zero, getV_loc, Ok_ok, arr, List.map_cons, List.map_nil, List.getD_cons_zero, List.getD_cons_succ]
    refine any_call any_ok' d1 (by decide) (by decide) fun many s2 m0 m1 d2 f2 => ?_
    simp only [List.set_cons_succ, List.set_cons_zero]
    rw [OkS_ret]
    simp only [Ok_op, Ok_tup, Ok_callF, Ok_aCons, Ok_aNil, Ok_C, Ok_varI, List.getElem?_cons_zero, List.getElem?_cons_succ, getV_loc, getV_int, Ok_ok, arr, List.map_cons, List.map_nil, List.getD_cons_zero, List.getD_cons_succ]
    refine any_call any_ok' d2 (by decide) (by decide) fun a s3 a0 a1 d3 f3 => ?_
    refine ⟨by simp, octets_call (k := many.toNat) (by omega) (by omega) d3 fun bs s4 b1 b2 d4 f4 => ?_⟩
    have e : oAdd (.tup [.int a]) (.tup (ivs bs)) s4 = .ok (.tup (ivs (a :: bs))) s4 := by
      show (if [Val.int a].length + (ivs bs).length ≤ 16777216 then R.ok (Val.tup ([Val.int a] ++ ivs bs)) s4 else .stuck) = _
      rw [if_pos (by rw [ivs_length]; simp only [List.length_cons, List.length_nil]; omega)]
      rfl
    rw [e, Ok_ok]
    refine ⟨.inl ⟨a :: bs, rfl, fun x hx => ?_, by simp only [List.length_cons]; omega⟩, d4, ((f1.trans f2).trans f3).trans f4⟩
    rcases List.mem_cons.mp hx with w | w
    · rw [w]; omega
    · exact b2 x w
  · simp only [c6, decide_false, Bool.false_eq_true, if_false, sNil_eq, OkS_nx]
    rw [seq_if]
    simp only [Ok_tVal, Ok_op, Ok_C, Ok_varI, List.getElem?_cons_zero, List.getElem?_cons_succ, getV_int, Ok_ok, oEq_int]
    refine ⟨_, rfl, ?_⟩
    by_cases c66 : kind = 6
    · simp only [c66, decide_true, if_true, Bool.false_eq_true, if_false]
      rw [OkS_ret]
      simp only [Ok_callF, Ok_lst, Ok_tup, Ok_aCons, Ok_aNil, Ok_C, Ok_varI, List.getElem?_cons_zero, getV_loc, Ok_ok, arr, List.map_cons, List.map_nil, List.getD_cons_zero, List.getD_cons_succ]
      refine ⟨by simp, by simp, by simp, by simp, by simp, by simp, ?_⟩
      have hlen := f1.len
      refine of_call ((((d1.app _).app _).app _).app _) at_new (by simp; omega) (by simp; omega) (by simp) (by simp) fun v s hv d2 f2 => ?_
      refine ⟨?_, d2, ((((f1.trans (.app _)).trans (.app _)).trans (.app _)).trans (.app _)).trans f2⟩
      have loc_ok : ∀ (l : Nat) (xs : List Val), (s1 ++ [Ob.lst []] ++ [Ob.lst [.int 1, .int 2]] ++ [Ob.lst [.tup [.int 1]]] ++ [Ob.lst [.non, .bl true, .int 3, .str "", .str "abc", .loc s1.length, .loc (s1 ++ [Ob.lst []]).length, .loc (s1 ++ [Ob.lst []] ++ [Ob.lst [.int 1, .int 2]]).length, .tup []]])[l]? = some (.lst xs) → s1.length ≤ l → VOk s (.loc l) := fun l xs h1 h2 =>
        .inr ⟨⟨xs, f2.at h1 (by omega) (by omega)⟩, fun _ => nofun, fun _ => nofun, rfl⟩
      have sc : ∀ v : Val, (match v with | .non => True | .bl _ => True | .int _ => True | .str _ => True | _ => False) → VOk s v := fun v hv => .inr (by cases v <;> first | exact hv.elim | exact ⟨trivial, fun _ => nofun, fun _ => nofun, rfl⟩)
      simp only [List.mem_cons, List.not_mem_nil, or_false] at hv
      rcases hv with rfl | rfl | rfl | rfl | rfl | rfl | rfl | rfl | rfl
      · exact sc _ trivial
      · exact sc _ trivial
      · exact sc _ trivial
      · exact sc _ trivial
      · exact sc _ trivial
      · exact loc_ok _ [] (by simp [List.getElem?_append]) (Nat.le_refl _)
      · exact loc_ok _ [.int 1, .int 2] (by simp [List.getElem?_append]) (by simp)
      · exact loc_ok _ [.tup [.int 1]] (by simp [List.getElem?_append]) (by simp)
      · exact .inl ⟨[], rfl, (fun x hx => nomatch hx), by simp⟩
    · simp only [c66, decide_false, Bool.false_eq_true, if_false, sNil_eq, OkS_nx]
      rw [seq_asg]
      simp only [Ok_op, Ok_callF, Ok_lst, Ok_tup, Ok_aCons, Ok_aNil, Ok_C, Ok_varI, List.getElem?_cons_zero, getV_loc, Ok_ok, arr, List.map_cons, List.map_nil, List.getD_cons_zero, List.getD_cons_succ]
      refine any_call any_ok' d1 (by decide) (by decide) fun r0 s2 r00 r01 d2 f2 => ⟨by simp, ?_⟩
      obtain ⟨v3, s3, e3, r3, rfl, r30, r31, d3, f3⟩ := Ok_iff.mp (any_ok' 16 (s2 ++ [Ob.lst [.int r0]]) d c (d2.app _) (by decide) (by decide))
      have hlen1 := f1.len
      have hlen2 := f2.len
      have hlen3 := f3.len
      have ex : (eCallF m__law_any [.inl 0, .inl 1] [] (aCons (eVar 0) (aCons (eC (.int 16)) aNil))) [some (.loc d), some (.int kind), none, none, none] (s2 ++ [Ob.lst [.int r0]]) = .ok (.int r3) s3 := by
        rw [eCallF_eq]
        exact e3
      refine (lcAny any_ok' (items := (List.range r3.toNat).map fun (i : Nat) => Val.int (i : Int)) (iRange1_ok ex (k := r3.toNat) (by omega) (by omega)) d3 (by decide) rfl (by decide) (by decide) (by simp; omega)).imp fun v4 s4 ⟨l4, bs, e4, q1, q2, q3, q4, d4, f4⟩ => ?_
      subst e4
      have lt2 : st.length ≤ s2.length := Nat.le_trans hlen1 hlen2
      have hr0 : s4[s2.length]? = some (.lst [.int r0]) := (f3.trans f4).at at_new (by omega) (by omega)
      have hbl : bs.length ≤ 16 := by rw [q3]; simp; omega
      have e5 : oAdd (.loc s2.length) (.loc l4) s4 = .ok (.loc s4.length) (s4 ++ [Ob.lst (ivs (r0 :: bs))]) := by
        show (match s4[s2.length]?, s4[l4]? with | some (.lst xs), some (.lst ys) => if xs.length + ys.length ≤ 16777216 then R.ok (Val.loc s4.length) (s4 ++ [Ob.lst (xs ++ ys)]) else R.stuck | _, _ => R.stuck) = _
        rw [hr0, q1]
        simp only
        rw [if_pos (by rw [ivs_length]; simp only [List.length_cons, List.length_nil]; omega)]
        rfl
      rw [e5, Ok_ok]
      simp only [List.set_cons_succ, List.set_cons_zero]
      have hlen4 := f4.len
      simp only [List.length_append, List.length_cons, List.length_nil] at hlen3
      generalize hvs : ivs (r0 :: bs) = vs at *
      have hvl : vs.length ≤ 17 ∧ vs ≠ [] := by rw [← hvs, ivs_length]; simp; omega
      have hvo : ∀ x ∈ vs, ∃ i, x = .int i := fun x hx => by
        rw [← hvs] at hx
        obtain ⟨i, _, e⟩ := List.mem_map.mp hx
        exact ⟨i, e.symm⟩
      rw [seq_sub]
      simp only [Ok_op, Ok_callF, Ok_un, Ok_lst, Ok_tup, Ok_aCons, Ok_aNil, Ok_C, Ok_varI, List.getElem?_cons_zero, getV_loc, Ok_ok, arr, List.map_cons, List.map_nil, List.getD_cons_zero, List.getD_cons_succ, oNeg]
      have p1 : oPow (.int 10) (.int 30) (s4 ++ [Ob.lst vs]) = .ok (.int (10 ^ 30)) (s4 ++ [Ob.lst vs]) := rfl
      refine ⟨by simp, ?_⟩
      rw [p1, Ok_ok]
      refine ⟨by simp, ?_⟩
      refine of_call ((d4.app _).app _) at_new (by simp; omega) (by simp; omega) (by simp) (by simp) fun bad s5 hbad d5 f5 => ?_
      have f5' : Fr d c s4 s5 := ((Fr.app _).trans (.app _)).trans f5
      have hrow : s5[s4.length]? = some (.lst vs) := f5.at (by rw [List.getElem?_append_left (by simp)]; exact at_new) (by omega) (by omega)
      have hbadB : isB 256 bad = false ∧ ∀ s : Sto, Pl s bad := by
        simp only [List.mem_cons, List.not_mem_nil, or_false] at hbad
        rcases hbad with rfl | rfl | rfl | rfl | rfl | rfl | rfl | rfl <;> exact ⟨by decide, fun _ => trivial⟩
      simp only [Ok_callF, Ok_call, Ok_aCons, Ok_aNil, Ok_varI, List.getElem?_cons_zero, List.getElem?_cons_succ, getV_loc, Ok_ok, arr, List.map_cons, List.map_nil, List.getD_cons_zero, List.getD_cons_succ, one']
      have l5 : oLen (.loc s4.length) s5 = .ok (.int vs.length) s5 := by simp [oLen, seqOf, hrow]
      rw [l5, Ok_ok]
      have hvp : 0 < vs.length := List.length_pos_iff.mpr hvl.2
      refine any_call any_ok' d5 (by omega) (by
        have : ((vs.length : Int)).natAbs < 2 ^ 9000 := by
          have h1 : ((vs.length : Int)).natAbs ≤ 17 := by omega
          exact Nat.lt_of_le_of_lt h1 (Nat.lt_of_lt_of_le (by decide : 17 < 2 ^ 5) (Nat.pow_le_pow_right (by decide) (by decide)))
        exact (Nat.log2_lt (by omega)).mpr this) fun j s6 j0 j1 d6 f6 => ?_
      have hrow6 := f6.at hrow (by omega) (by omega)
      obtain ⟨jn, rfl⟩ : ∃ jn : Nat, j = (jn : Int) := ⟨j.toNat, by omega⟩
      have hjn : jn < vs.length := by omega
      have hix : ixN vs.length (jn : Int) = some jn := by
        unfold ixN
        rw [if_pos (by omega), if_pos (by omega), Int.toNat_natCast]
      have k6 : kSetL (.loc s4.length) (.int (jn : Int)) bad s6 = .ok () (s6.set s4.length (.lst (vs.set jn bad))) := by
        simp only [kSetL, hrow6, hix]
      rw [k6, Ok_ok, OkS_ret]
      have hlen5 := f5.len
      have hlen6 := f6.len
      simp only [List.length_append, List.length_cons, List.length_nil] at hlen5
      have hlt6 : s4.length < s6.length := (List.getElem?_eq_some_iff.mp hrow6).1
      have hnew : (s6.set s4.length (Ob.lst (vs.set jn bad)))[s4.length]? = some (.lst (vs.set jn bad)) := List.getElem?_set_self hlt6
      have d7 : Deal (s6.set s4.length (Ob.lst (vs.set jn bad))) d c := d6.setOther (by omega) (by omega)
      have f7 : Fr d c st (s6.set s4.length (Ob.lst (vs.set jn bad))) := (((((f1.trans f2).trans (.app _)).trans f3).trans f4).trans (f5'.trans f6)).setNew (by omega)
      have hall : (vs.set jn bad).all (isB 256) = false := by
        refine Bool.eq_false_iff.mpr fun z => ?_
        have := List.all_eq_true.mp z bad (List.mem_set hjn _)
        rw [hbadB.1] at this
        cases this
      have hpl : ∀ s : Sto, Pl s bad → ∀ y ∈ vs.set jn bad, Pl s y := fun s hb y hy => by
        rcases List.mem_or_eq_of_mem_set hy with w | w
        · obtain ⟨i, rfl⟩ := hvo y w; trivial
        · rw [w]; exact hb
      simp only [Ok_if, Ok_tVal, Ok_op, Ok_call, Ok_aCons, Ok_aNil, Ok_C, Ok_varI, List.getElem?_cons_zero, List.getElem?_cons_succ, getV_int, getV_loc, Ok_ok, oEq_int, one']
      refine ⟨_, rfl, ?_⟩
      by_cases c7 : kind = 7
      · simp only [c7, decide_true, if_true, Bool.false_eq_true, if_false]
        have t : oTuple (.loc s4.length) (s6.set s4.length (Ob.lst (vs.set jn bad))) = .ok (.tup (vs.set jn bad)) (s6.set s4.length (Ob.lst (vs.set jn bad))) := by simp [oTuple, tupOf, lstOf, hnew]
        rw [t, Ok_ok]
        exact ⟨.inr ⟨trivial, fun _ => nofun, fun xs e => by cases e; exact hpl _ (hbadB.2 _), by simp only [isOct, hall]⟩, d7, f7⟩
      · simp only [c7, decide_false, Bool.false_eq_true, if_false]
        exact ⟨.inr ⟨⟨_, hnew⟩, fun _ => nofun, fun _ => nofun, rfl⟩, d7, f7⟩
end Lw

namespace Lw
open PySem L2 Sm
theorem pre_get {st s : Sto} (h : st <+: s) {l : Nat} {o : Ob} (hl : st[l]? = some o) : s[l]? = some o := by
  obtain ⟨t, rfl⟩ := h
  rw [List.getElem?_append_left (List.getElem?_eq_some_iff.mp hl).1]; exact hl
theorem Pl_ext {st s : Sto} (h : st <+: s) {x : Val} (hx : Pl st x) : Pl s x := by
  cases x with
  | loc l => obtain ⟨xs, e⟩ := hx; exact ⟨xs, pre_get h e⟩
  | _ => exact hx
theorem VOk_ext {st s : Sto} (h : st <+: s) {x : Val} (hx : VOk st x) : VOk s x := by
  rcases hx with hx | ⟨h1, h2, h3, h4⟩
  · exact .inl hx
  · exact .inr ⟨Pl_ext h h1, h2, fun xs e y hy => Pl_ext h (h3 xs e y hy), h4⟩
theorem oct_big {bs : List Int} (h : Oct bs) : ∀ x ∈ bs, 0 ≤ x ∧ x < 10 ^ 50 := fun x hx => ⟨(h x hx).1, Int.lt_trans (h x hx).2 (by decide)⟩
theorem sb_oct {bs : List Int} (h : Oct bs) (hl : bs.length ≤ 900) : SB 2 900 (.tuple (bs.map PyData.int)) := (SB.tup (SBs.ivs (oct_big h))).mono (Nat.le_refl _) hl
theorem nm_small {bs : List Int} {k : Nat} (h : Oct bs) (hl : bs.length ≤ k) (hk : k ≤ 20) : 0 ≤ nm bs ∧ nm bs < 10 ^ 50 := by
  obtain ⟨h1, h2⟩ := nm_bound h
  refine ⟨h1, Int.lt_of_lt_of_le h2 ?_⟩
  have h3 : (256 : Nat) ^ bs.length ≤ 256 ^ 20 := Nat.pow_le_pow_right (by decide) (by omega)
  have h4 : (256 : Int) ^ bs.length = ((256 ^ bs.length : Nat) : Int) := by norm_cast
  rw [h4]
  have h5 : (256 ^ 20 : Nat) ≤ 10 ^ 50 := by decide
  have h6 : ((10 : Int) ^ 50) = ((10 ^ 50 : Nat) : Int) := by norm_cast
  rw [h6]
  exact Int.ofNat_le.mpr (Nat.le_trans h3 h5)
theorem sb_wrong {a : Int} (h : a = -1 ∨ (0 ≤ a ∧ a < 10 ^ 50)) : SB 2 200 (.list [.str "wrong", .int a]) := by
  have h1 : SB 1 0 (.int a) := by
    rcases h with rfl | h
    · exact .neg1
    · exact .int h.1 h.2
  exact (SB.lst (SBs.cons (SB.str (s := "wrong") (by decide +kernel) (by decide +kernel)) (SBs.cons h1 .nil))).mono (by decide) (by decide)
theorem sb_word {s : Str} (h : (PyData.leavesShort 60 (.str s)) = true := by decide +kernel) (h2 : s.cps.size ≤ 100 := by decide +kernel) : SB 1 100 (.str s) := SB.str h h2
/-- what the reader's answer is as data -/
theorem rdB_data {bs : List Int} (h : Oct bs) (hl : bs.length ≤ 900) : match rdB bs with
    | .error a => 0 ≤ a ∧ a < 10 ^ 50
    | .ok v => okV v = true ∧ ∃ d, (∀ st, Pd 2 st v d) ∧ SB 4 3000 d := by
  cases bs with
  | nil => exact ⟨by decide, by decide⟩
  | cons b r =>
    unfold rdB
    simp only
    by_cases c1 : b < 1 ∨ 3 < b
    · rw [if_pos c1]; exact ⟨by decide, by decide⟩
    · rw [if_neg c1]
      by_cases c2 : (((b :: r).length : Nat) : Int) < (if b = 1 then 1 else if b = 2 then 5 else 13)
      · rw [if_pos c2]
        refine ⟨by omega, ?_⟩
        have : (((b :: r).length : Nat) : Int) ≤ 900 := by omega
        exact Int.lt_of_le_of_lt this (by decide)
      · rw [if_neg c2]
        have n1 := nm_small (k := 4) (oct_take (oct_drop h 1) 4) (by simp; omega) (by decide)
        have n5 := nm_small (k := 8) (oct_take (oct_drop h 5) 8) (by simp; omega) (by decide)
        have b1 := sb_oct (oct_drop h 1) (by rw [List.length_drop]; omega)
        have b5 := sb_oct (oct_drop h 5) (by rw [List.length_drop]; omega)
        have b13 := sb_oct (oct_drop h 13) (by rw [List.length_drop]; omega)
        by_cases c3 : b = 1
        · rw [if_pos c3]
          refine ⟨rfl, _, fun st => Pd.tup (.cons ((Pd.str _).mono (Nat.zero_le _)) (.cons (Pd.tup (PdA.ivs _)) .nil)), (SB.tup (SBs.cons sb_word (SBs.cons b1 .nil))).mono (by decide) (by decide)⟩
        · rw [if_neg c3]
          by_cases c4 : b = 2
          · rw [if_pos c4]
            refine ⟨rfl, _, fun st => Pd.tup (.cons ((Pd.str _).mono (Nat.zero_le _)) (.cons ((Pd.int _).mono (Nat.zero_le _)) (.cons (Pd.tup (PdA.ivs _)) .nil))), (SB.tup (SBs.cons sb_word (SBs.cons (SB.int n1.1 n1.2) (SBs.cons b5 .nil)))).mono (by decide) (by decide)⟩
          · rw [if_neg c4]
            by_cases c5 : 9223372036854775808 ≤ nm (((b :: r).drop 5).take 8)
            · rw [if_pos c5]; exact ⟨by decide, by decide⟩
            · rw [if_neg c5]
              refine ⟨rfl, _, fun st => Pd.tup (.cons ((Pd.str _).mono (Nat.zero_le _)) (.cons ((Pd.int _).mono (Nat.zero_le _)) (.cons ((Pd.int _).mono (Nat.zero_le _)) (.cons (Pd.tup (PdA.ivs _)) .nil)))), (SB.tup (SBs.cons sb_word (SBs.cons (SB.int n1.1 n1.2) (SBs.cons (SB.int n5.1 n5.2) (SBs.cons b13 .nil))))).mono (by decide) (by decide)⟩
theorem pd_wrong {st : Sto} {l : Nat} {a : Int} (h : st[l]? = some (.lst [.str "wrong", .int a])) : Pd 2 st (.loc l) (.list [.str "wrong", .int a]) :=
  Pd.lst h (.cons ((Pd.str _).mono (Nat.zero_le _)) (.cons ((Pd.int _).mono (Nat.zero_le _)) .nil))
/-- the program's reader and the law's say the same -/
theorem pair_ok {st : Sto} {x : Val} (hx : VOk st x) : Ok (m__law_told [x] st) fun v s => st <+: s ∧ okV v = true ∧ ∃ d, Pd 2 s v d ∧ SB 4 3000 d ∧ ∀ s', s <+: s' → Ok (m__law_read [x] s') fun v' s'' => s' <+: s'' ∧ okV v' = true ∧ Pd 2 s'' v' d := by
  rcases hx with ⟨bs, rfl, ho, hl⟩ | ⟨h1, h2, h3, h4⟩
  · have r := read_datagram_ok (st := st) ho hl
    have q := rdB_data ho hl
    cases hr : rdB bs with
    | error a =>
      rw [hr] at r q
      rw [told_err rfl r, Ok_ok]
      refine ⟨List.prefix_append _ _, rfl, _, pd_wrong at_new, (sb_wrong (.inr q)).mono (by decide) (by decide), fun s' hs => ?_⟩
      refine (lread_ok (st := s') ho hl).imp fun v' s'' ⟨p1, p2⟩ => ?_
      rw [hr] at p2
      obtain ⟨l, rfl, e⟩ := p2
      exact ⟨p1, rfl, pd_wrong e⟩
    | ok v =>
      rw [hr] at r q
      obtain ⟨q0, d, q1, q2⟩ := q
      rw [told_ok rfl r, Ok_ok]
      refine ⟨List.prefix_refl _, q0, d, q1 _, q2, fun s' hs => ?_⟩
      refine (lread_ok (st := s') ho hl).imp fun v' s'' ⟨p1, p2⟩ => ?_
      rw [hr] at p2
      subst p2
      exact ⟨p1, q0, q1 _⟩
  · rw [told_err h1.ok (read_datagram_bad h1 h2 h3 h4), Ok_ok]
    refine ⟨List.prefix_append _ _, rfl, _, pd_wrong at_new, (sb_wrong (.inl rfl)).mono (by decide) (by decide), fun s' hs => ?_⟩
    have hp : st <+: s' := (List.prefix_append _ _).trans hs
    refine (lread_bad (Pl_ext hp h1) h2 (fun xs e y hy => Pl_ext hp (h3 xs e y hy)) h4).imp fun v' s'' ⟨p1, l, e1, e2⟩ => ?_
    subst e1
    exact ⟨p1, rfl, pd_wrong e2⟩
end Lw

namespace Lw
open PySem L2 Sm
theorem oAdd_ivs {a b : List Int} {st : Sto} (h : a.length + b.length ≤ 16777216) : oAdd (.tup (ivs a)) (.tup (ivs b)) st = .ok (.tup (ivs (a ++ b))) st := by
  show (if (ivs a).length + (ivs b).length ≤ 16777216 then R.ok (Val.tup (ivs a ++ ivs b)) st else .stuck) = _
  rw [if_pos (by rw [ivs_length, ivs_length]; exact h), ivs_append]
theorem oAdd_one {x : Int} {b : List Int} {st : Sto} (h : b.length ≤ 16777215) : oAdd (.tup [.int x]) (.tup (ivs b)) st = .ok (.tup (ivs (x :: b))) st := oAdd_ivs (a := [x]) (by simp only [List.length_cons, List.length_nil]; omega)
theorem two_ok {k n m : Nat} {st : Sto} {x y : Val} {d : PyData} (hx : okV x = true) (hy : okV y = true) (h1 : Pd k st x d) (h2 : Pd k st y d) (s : SB n m d) (hk : k ≤ 40) (hn : n ≤ 60) (hm : m ≤ 200000) : m__law_two [x, y] st = .ok x st := by
  have r1 := repr_ok h1 s hk hn hm
  have r2 := repr_ok h2 s hk hn hm
  simp [m__law_two, runB, b__law_two, getV_ok hx, getV_ok hy, one', r1, r2, oEq_str]
theorem oct_fn {st : Sto} {n z : Int} {k : Nat} (hz : z = (k : Int)) (hn : 0 ≤ n) (hk : k ≤ 1000) (h : n < 256 ^ k) : m_octets_of [.int n, .int z] st = .ok (.tup (ivs (le k n))) (st ++ [Ob.lst (ivs (le k n))]) := by rw [octets_of_eq]; exact oct_ok hz hn hk h
theorem low_fn {st : Sto} {n z : Int} {k : Nat} (hz : z = (k : Int)) (hn : 0 ≤ n) (hk : k ≤ 1000) : m__law_low [.int n, .int z] st = .ok (.tup (ivs (le k n))) (st ++ [Ob.lst (ivs (le k n))]) := by rw [llow_eq]; exact low_ok hz hn hk
theorem first_ok {st : Sto} {bs : List Int} (hl : bs.length ≤ 900) : m_first_datagram [.tup (ivs bs)] st = .ok (.tup (ivs (1 :: bs))) st := by
  have := oAdd_one (x := 1) (b := bs) (st := st) (by omega)
  simp [m_first_datagram, runB, b_first_datagram, this]
theorem answer_ok {st : Sto} {bs : List Int} {n : Int} (hl : bs.length ≤ 900) (hn : 0 ≤ n) (h : n < 4294967296) : m_answer_datagram [.int n, .tup (ivs bs)] st = .ok (.tup (ivs (2 :: (le 4 n ++ bs)))) (st ++ [Ob.lst (ivs (le 4 n))]) := by
  have o1 := oct_fn (st := st) (n := n) (z := 4) (k := 4) rfl hn (by decide) h
  have a1 := oAdd_one (x := 2) (b := le 4 n) (st := st ++ [Ob.lst (ivs (le 4 n))]) (by rw [le_length]; decide)
  have a2 := oAdd_ivs (a := 2 :: le 4 n) (b := bs) (st := st ++ [Ob.lst (ivs (le 4 n))]) (by simp only [List.length_cons, le_length]; omega)
  simp [-ivs_cons, m_answer_datagram, runB, b_answer_datagram, arr, o1, a1, a2]
theorem head_ok {st : Sto} {n c : Int} (hn : 0 ≤ n) (h : n < 4294967296) (hc : 0 ≤ c) (h2 : c < 18446744073709551616) : m_sealed_head [.int n, .int c] st = .ok (.tup (ivs (3 :: (le 4 n ++ le 8 c)))) (st ++ [Ob.lst (ivs (le 4 n))] ++ [Ob.lst (ivs (le 8 c))]) := by
  have o1 := oct_fn (st := st) (n := n) (z := 4) (k := 4) rfl hn (by decide) h
  have o2 := oct_fn (st := st ++ [Ob.lst (ivs (le 4 n))]) (n := c) (z := 8) (k := 8) rfl hc (by decide) h2
  have a1 := oAdd_one (x := 3) (b := le 4 n) (st := st ++ [Ob.lst (ivs (le 4 n))]) (by rw [le_length]; decide)
  have a2 := oAdd_ivs (a := 3 :: le 4 n) (b := le 8 c) (st := st ++ [Ob.lst (ivs (le 4 n))] ++ [Ob.lst (ivs (le 8 c))]) (by simp only [List.length_cons, le_length]; decide)
  simp only [List.append_assoc, List.cons_append, List.nil_append] at o1 o2 a1 a2 ⊢
  simp [-ivs_cons, m_sealed_head, runB, b_sealed_head, arr, o1, o2, a1, a2]
theorem sealed_ok {st : Sto} {bs : List Int} {n c : Int} (hl : bs.length ≤ 900) (hn : 0 ≤ n) (h : n < 4294967296) (hc : 0 ≤ c) (h2 : c < 18446744073709551616) : m_sealed_datagram [.int n, .int c, .tup (ivs bs)] st = .ok (.tup (ivs (3 :: (le 4 n ++ le 8 c) ++ bs))) (st ++ [Ob.lst (ivs (le 4 n))] ++ [Ob.lst (ivs (le 8 c))]) := by
  have o1 := head_ok (st := st) hn h hc h2
  have a2 := oAdd_ivs (a := 3 :: (le 4 n ++ le 8 c)) (b := bs) (st := st ++ [Ob.lst (ivs (le 4 n))] ++ [Ob.lst (ivs (le 8 c))]) (by simp only [List.length_cons, List.length_append, le_length]; omega)
  simp only [List.append_assoc, List.cons_append, List.nil_append] at o1 a2 ⊢
  simp [-ivs_cons, m_sealed_datagram, runB, b_sealed_datagram, arr, o1, a2]
/-- three datagrams read back -/
theorem rd_first {bs : List Int} : rdB (1 :: bs) = .ok (.tup [.str "first", .tup (ivs bs)]) := by
  simp [rdB]
  omega
theorem rd_answer {bs : List Int} {n : Int} (hn : 0 ≤ n) (h : n < 4294967296) : rdB (2 :: (le 4 n ++ bs)) = .ok (.tup [.str "answer", .int n, .tup (ivs bs)]) := by
  have e1 : (le 4 n ++ bs).take 4 = le 4 n := by rw [List.take_append_of_le_length (by rw [le_length]; decide), List.take_of_length_le (by rw [le_length]; decide)]
  have e2 : (le 4 n ++ bs).drop 4 = bs := by rw [List.drop_append_of_le_length (by rw [le_length]; decide), List.drop_of_length_le (by rw [le_length]; decide), List.nil_append]
  have e3 : nm (le 4 n) = n := nm_le_of hn h
  simp [rdB, e1, e2, e3, le_length]
  omega
theorem rd_sealed {bs : List Int} {n c : Int} (hn : 0 ≤ n) (h : n < 4294967296) (hc : 0 ≤ c) (h2 : c < 9223372036854775808) : rdB (3 :: (le 4 n ++ le 8 c) ++ bs) = .ok (.tup [.str "sealed", .int n, .int c, .tup (ivs bs)]) := by
  have l4 := le_length 4 n
  have l8 := le_length 8 c
  have e1 : (le 4 n ++ (le 8 c ++ bs)).take 4 = le 4 n := by rw [List.take_append_of_le_length (by omega), List.take_of_length_le (by omega)]
  have e2 : (le 4 n ++ (le 8 c ++ bs)).drop 4 = le 8 c ++ bs := by rw [List.drop_append_of_le_length (by omega), List.drop_of_length_le (by omega), List.nil_append]
  have e3 : nm (le 4 n) = n := nm_le_of hn h
  have e4 : (le 8 c ++ bs).take 8 = le 8 c := by rw [List.take_append_of_le_length (by omega), List.take_of_length_le (by omega)]
  have e5 : nm (le 8 c) = c := nm_le_of hc (Int.lt_trans h2 (by decide))
  have e6 : (le 4 n ++ (le 8 c ++ bs)).drop 12 = bs := by
    rw [← List.append_assoc, List.drop_append_of_le_length (by simp only [List.length_append]; omega), List.drop_of_length_le (by simp only [List.length_append]; omega), List.nil_append]
  have hx : ¬ 9223372036854775808 ≤ c := by omega
  simp [rdB, e1, e2, e3, e4, e5, e6, l4, l8, hx]
  omega
end Lw

namespace Lw
open PySem L2 Sm
theorem ivs_rev (bs : List Int) : (ivs bs).reverse = ivs bs.reverse := by unfold ivs; rw [List.map_reverse]
theorem high_fn {st : Sto} {n : Int} (hn : 0 ≤ n) : m__law_high [.int n, .int 8] st = .ok (.tup (ivs (le 8 n).reverse)) (st ++ [Ob.lst (ivs (le 8 n))]) := by
  have o1 := low_fn (st := st) (n := n) (z := 8) (k := 8) rfl hn (by decide)
  simp [m__law_high, runB, b__law_high, arr, o1, tupOf, ivs_rev]
theorem stamp_fn {st : Sto} {s : Int} (h0 : 0 ≤ s) (h : s < 4611686018427387904) : m_stamp_octets [.int s] st = .ok (.tup (ivs (le 8 (4611686018427387904 + s)).reverse)) (st ++ [Ob.lst (ivs (le 8 (4611686018427387904 + s)))]) := by
  have o1 := oct_fn (st := st) (n := 4611686018427387904 + s) (z := 8) (k := 8) rfl (by omega) (by decide) (by
    have : (256 : Int) ^ 8 = 18446744073709551616 := by decide
    omega)
  have o2 : m_big_octets_of [.int (4611686018427387904 + s), .int 8] st = .ok (.tup (ivs (le 8 (4611686018427387904 + s)).reverse)) (st ++ [Ob.lst (ivs (le 8 (4611686018427387904 + s)))]) := by
    simp [m_big_octets_of, runB, b_big_octets_of, arr, o1, tupOf, ivs_rev]
  simp [m_stamp_octets, runB, b_stamp_octets, arr, oAdd_int, o2]
/-- a name, or none -/
abbrev Nm := Option (Int × Int)
def nmV : Nm → Val
  | none => .non
  | some p => .tup [.int p.1, .int p.2]
def NmOk : Nm → Prop
  | none => True
  | some p => 0 ≤ p.1 ∧ p.1 < 4611686018427387904 ∧ (p.2 = 0 ∨ p.2 = 1)
def sd : Nm → List Int
  | none => [0, 0, 0, 0, 0, 0, 0, 0, 2]
  | some p => (le 8 (4611686018427387904 + p.1)).reverse ++ [p.2]
theorem sd_len (n : Nm) : (sd n).length = 9 := by
  cases n with
  | none => rfl
  | some p => simp [sd, le_length]
theorem sd_oct {n : Nm} (h : NmOk n) : Oct (sd n) := by
  cases n with
  | none => intro x hx; simp [sd] at hx; rcases hx with rfl | rfl <;> decide
  | some p =>
    intro x hx
    rcases List.mem_append.mp hx with w | w
    · exact le_oct _ _ x (List.mem_reverse.mp w)
    · rw [List.mem_singleton.mp w]
      obtain ⟨_, _, h3⟩ := h
      omega
theorem lsaid_ok {st : Sto} {n : Nm} (h : NmOk n) : Ok (m__law_said [nmV n] st) fun v s => v = .tup (ivs (sd n)) ∧ st <+: s := by
  cases n with
  | none =>
    have e : m__law_said [.non] st = .ok (.tup (ivs (sd none))) st := by
      simp [m__law_said, runB, b__law_said, oIsN, sd]
    rw [show nmV none = .non from rfl, e]
    exact ⟨rfl, List.prefix_refl _⟩
  | some p =>
    obtain ⟨a, f⟩ := p
    obtain ⟨h1, h2, h3⟩ := h
    have p1 : ∀ st : Sto, oPow (.int 2) (.int 62) st = .ok (.int 4611686018427387904) st := fun _ => rfl
    have i0 : ∀ st : Sto, oIx (.tup [.int a, .int f]) (.int 0) st = .ok (.int a) st := fun st => ix_ivs (bs := [a, f]) (j := 0) (by simp) rfl
    have i1 : ∀ st : Sto, oIx (.tup [.int a, .int f]) (.int 1) st = .ok (.int f) st := fun st => ix_ivs (bs := [a, f]) (j := 1) (by simp) rfl
    have o1 := high_fn (st := st) (n := 4611686018427387904 + a) (by simp only at h1; omega)
    have a1 := oAdd_ivs (a := (le 8 (4611686018427387904 + a)).reverse) (b := [f]) (st := st ++ [Ob.lst (ivs (le 8 (4611686018427387904 + a)))]) (by simp [le_length])
    have e : m__law_said [.tup [.int a, .int f]] st = .ok (.tup (ivs (sd (some (a, f))))) (st ++ [Ob.lst (ivs (le 8 (4611686018427387904 + a)))]) := by
      simp only [ivs_cons, ivs_nil] at a1
      simp [m__law_said, runB, b__law_said, oIsN, arr, p1, i0, i1, oAdd_int, o1, a1, sd]
    rw [show nmV (some (a, f)) = .tup [.int a, .int f] from rfl, e]
    exact ⟨rfl, List.prefix_append _ _⟩
/-- the program's: a tuple, or the constant -/
theorem said_ok {st : Sto} {n : Nm} (h : NmOk n) : Ok (m_said_octets [nmV n] st) fun v s => (v = .tup (ivs (sd n)) ∨ v = .kt (ivs (sd n))) ∧ st <+: s := by
  cases n with
  | none =>
    have e : m_said_octets [.non] st = .ok (.kt (ivs (sd none))) st := by
      simp [m_said_octets, runB, b_said_octets, oIsN, sd]
    rw [show nmV none = .non from rfl, e]
    exact ⟨.inr rfl, List.prefix_refl _⟩
  | some p =>
    obtain ⟨a, f⟩ := p
    obtain ⟨h1, h2, h3⟩ := h
    have i0 : ∀ st : Sto, oIx (.tup [.int a, .int f]) (.int 0) st = .ok (.int a) st := fun st => ix_ivs (bs := [a, f]) (j := 0) (by simp) rfl
    have i1 : ∀ st : Sto, oIx (.tup [.int a, .int f]) (.int 1) st = .ok (.int f) st := fun st => ix_ivs (bs := [a, f]) (j := 1) (by simp) rfl
    have o1 := stamp_fn (st := st) (s := a) h1 h2
    have a1 := oAdd_ivs (a := (le 8 (4611686018427387904 + a)).reverse) (b := [f]) (st := st ++ [Ob.lst (ivs (le 8 (4611686018427387904 + a)))]) (by simp [le_length])
    have e : m_said_octets [.tup [.int a, .int f]] st = .ok (.tup (ivs (sd (some (a, f))))) (st ++ [Ob.lst (ivs (le 8 (4611686018427387904 + a)))]) := by
      simp only [ivs_cons, ivs_nil] at a1
      simp [m_said_octets, runB, b_said_octets, oIsN, arr, i0, i1, o1, a1, sd]
    rw [show nmV (some (a, f)) = .tup [.int a, .int f] from rfl, e]
    exact ⟨.inl rfl, List.prefix_append _ _⟩
theorem oAdd_mix {a b : List Int} {v : Val} {st : Sto} (hv : v = .tup (ivs b) ∨ v = .kt (ivs b)) (h : a.length + b.length ≤ 16777216) (ha : a ≠ []) (hb : b ≠ []) : oAdd (.tup (ivs a)) v st = .ok (.tup (ivs (a ++ b))) st := by
  rcases hv with rfl | rfl
  · exact oAdd_ivs h
  · show (if (ivs a).length + (ivs b).length ≤ 16777216 ∧ ivs a ≠ [] ∧ ivs b ≠ [] then R.ok (Val.tup (ivs a ++ ivs b)) st else .stuck) = _
    have e1 : ivs a ≠ [] := fun z => ha (by have := congrArg List.length z; rw [ivs_length] at this; exact List.length_eq_zero_iff.mp this)
    have e2 : ivs b ≠ [] := fun z => hb (by have := congrArg List.length z; rw [ivs_length] at this; exact List.length_eq_zero_iff.mp this)
    rw [if_pos ⟨by rw [ivs_length, ivs_length]; exact h, e1, e2⟩, ivs_append]
def fpB (n s : Int) (m : Nm) : List Int := le 4 n ++ (le 8 (4611686018427387904 + s)).reverse ++ sd m
def apB (n : Int) (m : Nm) : List Int := le 4 n ++ sd m
theorem sd_ne (m : Nm) : sd m ≠ [] := fun z => by have := sd_len m; rw [z] at this; cases this
theorem fp_ok {st : Sto} {n s : Int} {m : Nm} (hn : 0 ≤ n) (h : n < 4294967296) (h0 : 0 ≤ s) (hs : s < 4611686018427387904) (hm : NmOk m) : Ok (m_first_payload [.int n, .int s, nmV m] st) fun v q => v = .tup (ivs (fpB n s m)) ∧ st <+: q := by
  have hv : okV (nmV m) = true := by cases m <;> rfl
  have o1 := oct_fn (st := st) (n := n) (z := 4) (k := 4) rfl hn (by decide) h
  have o2 := stamp_fn (st := st ++ [Ob.lst (ivs (le 4 n))]) h0 hs
  unfold m_first_payload b_first_payload
  rw [Ok_run]
  simp only [List.map_cons, List.map_nil, List.length_cons, List.length_nil, List.cons_append, List.nil_append, List.replicate]
  rw [OkS_ret]
  simp only [Ok_op, Ok_callF, Ok_aCons, Ok_aNil, Ok_C, Ok_varI, List.getElem?_cons_zero, List.getElem?_cons_succ, getV_int, getV_ok hv, Ok_ok, arr, List.map_cons, List.map_nil, List.getD_cons_zero, List.getD_cons_succ, o1, o2]
  have a1 := oAdd_ivs (a := le 4 n) (b := (le 8 (4611686018427387904 + s)).reverse) (st := st ++ [Ob.lst (ivs (le 4 n))] ++ [Ob.lst (ivs (le 8 (4611686018427387904 + s)))]) (by simp [le_length])
  rw [a1, Ok_ok]
  refine (said_ok hm).imp fun v q ⟨e, hp⟩ => ?_
  rw [oAdd_mix e (by simp [le_length, sd_len]) (fun z => by have := congrArg List.length z; simp [le_length] at this) (sd_ne m), Ok_ok]
  exact ⟨rfl, ((List.prefix_append _ _).trans (List.prefix_append _ _)).trans hp⟩
theorem ap_ok {st : Sto} {n : Int} {m : Nm} (hn : 0 ≤ n) (h : n < 4294967296) (hm : NmOk m) : Ok (m_answer_payload [.int n, nmV m] st) fun v q => v = .tup (ivs (apB n m)) ∧ st <+: q := by
  have hv : okV (nmV m) = true := by cases m <;> rfl
  have o1 := oct_fn (st := st) (n := n) (z := 4) (k := 4) rfl hn (by decide) h
  unfold m_answer_payload b_answer_payload
  rw [Ok_run]
  simp only [List.map_cons, List.map_nil, List.length_cons, List.length_nil, List.cons_append, List.nil_append, List.replicate]
  rw [OkS_ret]
  simp only [Ok_op, Ok_callF, Ok_aCons, Ok_aNil, Ok_C, Ok_varI, List.getElem?_cons_zero, List.getElem?_cons_succ, getV_int, getV_ok hv, Ok_ok, arr, List.map_cons, List.map_nil, List.getD_cons_zero, List.getD_cons_succ, o1]
  refine (said_ok hm).imp fun v q ⟨e, hp⟩ => ?_
  rw [oAdd_mix e (by simp [le_length, sd_len]) (fun z => by have := congrArg List.length z; simp [le_length] at this) (sd_ne m), Ok_ok]
  exact ⟨rfl, (List.prefix_append _ _).trans hp⟩
end Lw

namespace Lw
open PySem L2 Sm
theorem eqvAll_ivs : ∀ xs ys : List Int, PyData.eqvAll (xs.map PyData.int) (ys.map PyData.int) = decide (xs = ys)
  | [], [] => by simp [PyData.eqvAll]
  | [], y :: ys => by simp [PyData.eqvAll]
  | x :: xs, [] => by simp [PyData.eqvAll]
  | x :: xs, y :: ys => by
    simp only [List.map_cons, PyData.eqvAll, eqvAll_ivs xs ys, eqv_int]
    by_cases h : x = y <;> simp [h]
theorem oEq_tups {xs ys : List Int} {x y : Val} {st : Sto} (neg : Bool) (hx : x = .tup (ivs xs) ∨ x = .kt (ivs xs)) (hy : y = .tup (ivs ys) ∨ y = .kt (ivs ys)) : oEq neg x y st = .ok (.bl (if neg then !decide (xs = ys) else decide (xs = ys))) st := by
  have e1 : pd st deep x = some (.tuple (xs.map PyData.int)) := by
    rcases hx with rfl | rfl
    · exact Pd.tup (PdA.ivs (k := 0) xs) deep (by decide)
    · exact Pd.kt (PdA.ivs (k := 0) xs) deep (by decide)
  have e2 : pd st deep y = some (.tuple (ys.map PyData.int)) := by
    rcases hy with rfl | rfl
    · exact Pd.tup (PdA.ivs (k := 0) ys) deep (by decide)
    · exact Pd.kt (PdA.ivs (k := 0) ys) deep (by decide)
  have e0 : strPair x y = none := by rcases hx with rfl | rfl <;> rfl
  have e3 : PyData.eqv (.tuple (xs.map PyData.int)) (.tuple (ys.map PyData.int)) = decide (xs = ys) := by
    simp only [PyData.eqv]; exact eqvAll_ivs xs ys
  unfold oEq
  rw [e0]
  show oEqD neg x y st = _
  unfold oEqD
  rw [e1, e2]
  simp only [shaped_ivsT, Bool.and_self, if_true, e3]
def stOf (bs : List Int) : Option Int := if 64 ≤ bs.getD 0 0 ∧ bs.getD 0 0 < 128 then some (nm bs.reverse - 4611686018427387904) else none
theorem getD_ix {bs : List Int} {j : Nat} {z : Int} {st : Sto} (h : j < bs.length) (hz : z = (j : Int)) : oIx (.tup (ivs bs)) (.int z) st = .ok (.int (bs.getD j 0)) st := by
  rw [ix_ivs h hz, List.getD_eq_getElem?_getD, List.getElem?_eq_getElem h]
  rfl
theorem read_stamp_ok {st : Sto} {bs : List Int} (h : Oct bs) (hl : bs.length = 8) : m_read_stamp [.tup (ivs bs)] st = match stOf bs with
    | some z => .ok (.int z) st
    | none => .err ("InvalidOctets", [("at", .int 0)]) st := by
  have n1 := need_octets_ok (st := st) h hl
  have i0 := getD_ix (bs := bs) (j := 0) (z := 0) (st := st) (by omega) rfl
  have b1 := big_number_ok (st := st) h (by omega)
  unfold stOf
  generalize bs.getD 0 0 = b at *
  by_cases c1 : 64 ≤ b
  · by_cases c2 : b < 128
    · simp [-ivs_cons, m_read_stamp, runB, b_read_stamp, sSeq, arr, n1, i0, oInt_eq, c1, c2, b1]
    · simp [-ivs_cons, m_read_stamp, runB, b_read_stamp, sSeq, arr, n1, i0, oInt_eq, c1, c2, sRaise]
  · simp [-ivs_cons, m_read_stamp, runB, b_read_stamp, sSeq, arr, n1, i0, oInt_eq, c1, sRaise]
/-- what a name's octets tell -/
def rs (bs : List Int) : Option Nm := if bs = [0, 0, 0, 0, 0, 0, 0, 0, 2] then some none else match stOf (bs.take 8) with
  | some z => if bs.getD 8 0 < 2 then some (some (z, bs.getD 8 0)) else none
  | none => none
def rsL : Option Nm → List Val
  | none => []
  | some n => [nmV n]
theorem read_said_ok {st : Sto} {bs : List Int} (h : Oct bs) (hl : bs.length = 9) : m_read_said [.tup (ivs bs)] st = .ok (.tup (rsL (rs bs))) st := by
  have q1 := oEq_tups (xs := bs) (ys := [0, 0, 0, 0, 0, 0, 0, 0, 2]) (st := st) false (.inl rfl) (.inr rfl)
  have s8 : ∀ e : Option Val, eSl (eVar 0) oNoP (oPart (eC (.int 8))) [some (.tup (ivs bs)), e] st = .ok (.tup (ivs (bs.take 8))) st := fun e => slTo (a := 8) rfl rfl
  have r8 := read_stamp_ok (st := st) (oct_take h 8) (by rw [List.length_take]; omega)
  have i8 := getD_ix (bs := bs) (j := 8) (z := 8) (st := st) (by omega) rfl
  simp only [ivs_cons, ivs_nil] at q1
  unfold rs
  generalize bs.getD 8 0 = b at *
  generalize bs.take 8 = b8 at *
  generalize hvs : ivs bs = vs at *
  by_cases c0 : bs = [0, 0, 0, 0, 0, 0, 0, 0, 2]
  · rw [if_pos c0]
    simp only [c0, decide_true] at q1
    simp [-eSl_eq, m_read_said, runB, b_read_said, sSeq, q1, rsL, nmV]
  · rw [if_neg c0]
    simp only [c0, decide_false] at q1
    cases hs : stOf b8 with
    | none =>
      rw [hs] at r8
      simp [-eSl_eq, m_read_said, runB, b_read_said, sSeq, q1, rsL, sTry, s8, arr, r8, clauses, ex2, noEr]
    | some z =>
      rw [hs] at r8
      by_cases c2 : b < 2
      · simp [-eSl_eq, m_read_said, runB, b_read_said, sSeq, q1, rsL, sTry, s8, arr, r8, i8, oInt_eq, c2, nmV]
      · simp [-eSl_eq, m_read_said, runB, b_read_said, sSeq, q1, rsL, sTry, s8, arr, r8, i8, oInt_eq, c2]
theorem oEq_nil (r : Option Nm) (st : Sto) : oEq true (.tup (rsL r)) (.tup []) st = .ok (.bl r.isSome) st := by
  cases r with
  | none => exact oEq_tups (xs := []) (ys := []) true (.inl rfl) (.inl rfl)
  | some n =>
    cases n with
    | none =>
      have e1 : pd st deep (.tup (rsL (some none))) = some (.tuple [.none]) := rfl
      have e2 : pd st deep (.tup []) = some (.tuple []) := rfl
      unfold oEq
      simp only [strPair]
      unfold oEqD
      rw [e1, e2]
      simp [SeqAt.shaped, PyData.canLay0, PyData.canLayAll0, PyData.depth, PyData.depthAll, PyData.eqv, PyData.eqvAll]
    | some p =>
      have e1 : pd st deep (.tup (rsL (some (some p)))) = some (.tuple [.tuple [.int p.1, .int p.2]]) := rfl
      have e2 : pd st deep (.tup []) = some (.tuple []) := rfl
      unfold oEq
      simp only [strPair]
      unfold oEqD
      rw [e1, e2]
      simp [SeqAt.shaped, PyData.canLay0, PyData.canLayAll0, PyData.depth, PyData.depthAll, PyData.eqv, PyData.eqvAll]
def frOf (bs : List Int) : Val := if bs.length = 21 then (match rs (bs.drop 12), stOf ((bs.drop 4).take 8) with
  | some n, some z => .tup [.int (nm (bs.take 4)), .int z, nmV n]
  | _, _ => .non) else .non
theorem read_first_ok {st : Sto} {bs : List Int} (h : Oct bs) (hl : bs.length ≤ 900) : m_read_first_payload [.tup (ivs bs)] st = .ok (frOf bs) st := by
  have l1 : oLen (.tup (ivs bs)) st = .ok (.int bs.length) st := by rw [oLen_tup, ivs_length]
  unfold frOf
  by_cases c0 : bs.length = 21
  · rw [if_pos c0]
    have c0' : ((bs.length : Nat) : Int) = 21 := by omega
    have s12 : ∀ e f : Option Val, eSl (eVar 0) (oPart (eC (.int 12))) oNoP [some (.tup (ivs bs)), e, f] st = .ok (.tup (ivs (bs.drop 12))) st := fun e f => slFrom (a := 12) rfl rfl
    have s412 : ∀ e f : Option Val, eSl (eVar 0) (oPart (eC (.int 4))) (oPart (eC (.int 12))) [some (.tup (ivs bs)), e, f] st = .ok (.tup (ivs ((bs.drop 4).take 8))) st := fun e f => slMid (a := 4) (b := 12) rfl rfl rfl
    have s4 : ∀ e f : Option Val, eSl (eVar 0) oNoP (oPart (eC (.int 4))) [some (.tup (ivs bs)), e, f] st = .ok (.tup (ivs (bs.take 4))) st := fun e f => slTo (a := 4) rfl rfl
    have r1 := read_said_ok (st := st) (oct_drop h 12) (by rw [List.length_drop]; omega)
    have r2 := read_stamp_ok (st := st) (oct_take (oct_drop h 4) 8) (by rw [List.length_take, List.length_drop]; omega)
    have r3 := num_ivs (st := st) (oct_take h 4) (by rw [List.length_take]; omega)
    have q := oEq_nil (rs (bs.drop 12)) st
    generalize rs (bs.drop 12) = R at *
    generalize bs.drop 12 = b12 at *
    generalize (bs.drop 4).take 8 = b412 at *
    generalize bs.take 4 = b4 at *
    generalize ivs bs = vs at *
    cases hs : stOf b412 with
    | none =>
      rw [hs] at r2
      cases R <;> simp [-eSl_eq, m_read_first_payload, runB, b_read_first_payload, sSeq, one', l1, oEq_int, c0', s12, arr, r1, sTry, s412, r2, clauses, ex2, noEr]
    | some z =>
      rw [hs] at r2
      cases R with
      | none => simp [-eSl_eq, m_read_first_payload, runB, b_read_first_payload, sSeq, one', l1, oEq_int, c0', s12, arr, r1, sTry, s412, r2, q]
      | some n =>
        have i0 : oIx (.tup (rsL (some n))) (.int 0) st = .ok (nmV n) st := by simp [oIx, seqOf, rsL, atI_zero]
        simp [-eSl_eq, m_read_first_payload, runB, b_read_first_payload, sSeq, one', l1, oEq_int, c0', s12, arr, r1, sTry, s412, r2, q, s4, r3, i0]
  · rw [if_neg c0]
    have c0' : ¬ ((bs.length : Nat) : Int) = 21 := by omega
    simp [m_read_first_payload, runB, b_read_first_payload, sSeq, one', l1, oEq_int, c0']
def arOf (bs : List Int) : Val := if bs.length = 13 then (match rs (bs.drop 4) with
  | some n => .tup [.int (nm (bs.take 4)), nmV n]
  | none => .non) else .non
theorem read_answer_ok {st : Sto} {bs : List Int} (h : Oct bs) (hl : bs.length ≤ 900) : m_read_answer_payload [.tup (ivs bs)] st = .ok (arOf bs) st := by
  have l1 : oLen (.tup (ivs bs)) st = .ok (.int bs.length) st := by rw [oLen_tup, ivs_length]
  unfold arOf
  by_cases c0 : bs.length = 13
  · rw [if_pos c0]
    have c0' : ((bs.length : Nat) : Int) = 13 := by omega
    have s12 : ∀ e : Option Val, eSl (eVar 0) (oPart (eC (.int 4))) oNoP [some (.tup (ivs bs)), e] st = .ok (.tup (ivs (bs.drop 4))) st := fun e => slFrom (a := 4) rfl rfl
    have s4 : ∀ e : Option Val, eSl (eVar 0) oNoP (oPart (eC (.int 4))) [some (.tup (ivs bs)), e] st = .ok (.tup (ivs (bs.take 4))) st := fun e => slTo (a := 4) rfl rfl
    have r1 := read_said_ok (st := st) (oct_drop h 4) (by rw [List.length_drop]; omega)
    have r3 := num_ivs (st := st) (oct_take h 4) (by rw [List.length_take]; omega)
    have q := oEq_nil (rs (bs.drop 4)) st
    generalize rs (bs.drop 4) = R at *
    generalize bs.drop 4 = b12 at *
    generalize bs.take 4 = b4 at *
    generalize ivs bs = vs at *
    cases R with
    | none => simp [-eSl_eq, m_read_answer_payload, runB, b_read_answer_payload, sSeq, one', l1, oEq_int, c0', s12, arr, r1, q]
    | some n =>
      have i0 : oIx (.tup (rsL (some n))) (.int 0) st = .ok (nmV n) st := by simp [oIx, seqOf, rsL, atI_zero]
      simp [-eSl_eq, m_read_answer_payload, runB, b_read_answer_payload, sSeq, one', l1, oEq_int, c0', s12, arr, r1, q, s4, r3, i0]
  · rw [if_neg c0]
    have c0' : ¬ ((bs.length : Nat) : Int) = 13 := by omega
    simp [m_read_answer_payload, runB, b_read_answer_payload, sSeq, one', l1, oEq_int, c0']
end Lw

namespace Lw
open PySem L2 Sm
theorem slRev {bs : List Int} {st : Sto} {o : Ex} {env : Sm.Env} (h : o env st = .ok (.tup (ivs bs)) st) : eRev o env st = .ok (.tup (ivs bs.reverse)) st := by
  rw [eRev_eq, h, R.bind_ok, ← ivs_rev]
  rfl
theorem lnum_ivs {bs : List Int} {st : Sto} (h : Oct bs) (hl : bs.length ≤ 1000) : m__law_number [.tup (ivs bs)] st = .ok (.int (nm bs)) st := num_ok rfl h hl
theorem oct_rev {bs : List Int} (h : Oct bs) : Oct bs.reverse := fun x hx => h x (List.mem_reverse.mp hx)
theorem told_name_ok {st : Sto} {bs : List Int} (h : Oct bs) (hl : bs.length = 9) : Ok (m__law_told_name [.tup (ivs bs)] st) fun v s => ∃ l, v = .loc l ∧ s[l]? = some (.lst (rsL (rs bs))) ∧ st <+: s := by
  have q1 := oEq_tups (xs := bs) (ys := [0, 0, 0, 0, 0, 0, 0, 0, 2]) (st := st) false (.inl rfl) (.inl rfl)
  have s8 : eSl (eVar 0) oNoP (oPart (eC (.int 8))) [some (.tup (ivs bs))] st = .ok (.tup (ivs (bs.take 8))) st := slTo (a := 8) rfl rfl
  have r8 := slRev s8
  have n8 := lnum_ivs (st := st) (oct_rev (oct_take h 8)) (by rw [List.length_reverse, List.length_take]; omega)
  have i8 := getD_ix (bs := bs) (j := 8) (z := 8) (st := st) (by omega) rfl
  have i0 := getD_ix (bs := bs) (j := 0) (z := 0) (st := st) (by omega) rfl
  have p1 : oPow (.int 2) (.int 62) st = .ok (.int 4611686018427387904) st := rfl
  have e0 : (bs.take 8).getD 0 0 = bs.getD 0 0 := by
    rw [List.getD_eq_getElem?_getD, List.getD_eq_getElem?_getD, List.getElem?_take_of_lt (by decide)]
  simp only [ivs_cons, ivs_nil] at q1
  unfold rs stOf
  rw [e0]
  generalize bs.getD 8 0 = b at *
  generalize bs.getD 0 0 = a at *
  generalize (bs.take 8).reverse = b8 at *
  generalize hvs : ivs bs = vs at *
  by_cases c0 : bs = [0, 0, 0, 0, 0, 0, 0, 0, 2]
  · simp only [c0, decide_true] at q1
    have e : m__law_told_name [.tup vs] st = .ok (.loc st.length) (st ++ [Ob.lst [.non]]) := by
      simp [-eSl_eq, -eRev_eq, m__law_told_name, runB, b__law_told_name, sSeq, q1]
    rw [e, Ok_ok, if_pos c0]
    exact ⟨_, rfl, at_new, List.prefix_append _ _⟩
  · simp only [c0, decide_false] at q1
    rw [if_neg c0]
    have emp : (a < 64 ∨ 127 < a ∨ 1 < b) → m__law_told_name [.tup vs] st = .ok (.loc st.length) (st ++ [Ob.lst []]) := by
      intro hh
      by_cases c1 : a < 64
      · simp [-eSl_eq, -eRev_eq, m__law_told_name, runB, b__law_told_name, sSeq, q1, i0, oInt_eq, c1]
      · by_cases c2 : 127 < a
        · simp [-eSl_eq, -eRev_eq, m__law_told_name, runB, b__law_told_name, sSeq, q1, i0, oInt_eq, c1, c2]
        · have c3 : 1 < b := by omega
          simp [-eSl_eq, -eRev_eq, m__law_told_name, runB, b__law_told_name, sSeq, q1, i0, oInt_eq, c1, c2, i8, c3]
    by_cases c1 : 64 ≤ a ∧ a < 128
    · rw [if_pos c1]
      by_cases c2 : b < 2
      · have k1 : ¬ a < 64 := by omega
        have k2 : ¬ 127 < a := by omega
        have k3 : ¬ 1 < b := by omega
        have e : m__law_told_name [.tup vs] st = .ok (.loc st.length) (st ++ [Ob.lst [.tup [.int (nm b8 - 4611686018427387904), .int b]]]) := by
          simp [-eSl_eq, -eRev_eq, m__law_told_name, runB, b__law_told_name, sSeq, q1, i0, oInt_eq, k1, k2, i8, k3, r8, arr, n8, p1]
        rw [e, Ok_ok]
        simp only [c2, if_true]
        exact ⟨_, rfl, at_new, List.prefix_append _ _⟩
      · rw [emp (by omega), Ok_ok]
        simp only [c2, if_false]
        exact ⟨_, rfl, at_new, List.prefix_append _ _⟩
    · rw [if_neg c1, emp (by omega), Ok_ok]
      exact ⟨_, rfl, at_new, List.prefix_append _ _⟩
theorem name_ok {st : Sto} {d c : Nat} (h : Deal st d c) : Ok (m__law_name [.loc d] st) fun v s => ∃ n, v = nmV n ∧ NmOk n ∧ Deal s d c ∧ Fr d c st s := by
  obtain ⟨hd, hc, hdc⟩ := h.lt
  have p1 : ∀ st : Sto, oPow (.int 2) (.int 62) st = .ok (.int 4611686018427387904) st := fun _ => rfl
  unfold m__law_name b__law_name
  rw [Ok_run]
  simp only [List.map_cons, List.map_nil, List.length_cons, List.length_nil, List.cons_append, List.nil_append, List.replicate]
  rw [seq_asg]
  simp only [Ok_callF, Ok_lst, Ok_op, Ok_aCons, Ok_aNil, Ok_C, Ok_varI, List.getElem?_cons_zero, getV_loc, Ok_ok, arr, List.map_cons, List.map_nil, List.getD_cons_zero, List.getD_cons_succ, p1, oInt_eq, if_true]
  refine any_call any_ok' h (by decide) (by decide) fun r1 s1 a1 a2 d1 f1 => ?_
  refine any_call any_ok' d1 (by decide) (by decide) fun r2 s2 b1 b2 d2 f2 => ⟨by simp, ?_⟩
  have l1 := f1.len
  have l2 := f2.len
  refine of_call (d2.app _) at_new (by omega) (by omega) (by simp) (by simp) fun v s3 hv d3 f3 => ?_
  obtain ⟨z, rfl, z0, z1⟩ : ∃ z, v = .int z ∧ 0 ≤ z ∧ z < 4611686018427387904 := by
    simp only [List.mem_cons, List.not_mem_nil, or_false] at hv
    rcases hv with rfl | rfl | rfl | rfl | rfl
    · exact ⟨_, rfl, by decide, by decide⟩
    · exact ⟨_, rfl, by decide, by decide⟩
    · exact ⟨_, rfl, by decide, by decide⟩
    · exact ⟨_, rfl, a1, by omega⟩
    · exact ⟨_, rfl, b1, b2⟩
  have l3 := f3.len
  simp only [List.length_append, List.length_cons, List.length_nil] at l3
  simp only [List.set_cons_succ, List.set_cons_zero]
  rw [OkS_ret]
  simp only [Ok_callF, Ok_lst, Ok_tup, Ok_aCons, Ok_aNil, Ok_C, Ok_varI, List.getElem?_cons_zero, List.getElem?_cons_succ, getV_loc, getV_int, Ok_ok, arr, List.map_cons, List.map_nil, List.getD_cons_zero, List.getD_cons_succ]
  refine ⟨by simp, by simp, by simp, ?_⟩
  refine of_call (d3.app _) at_new (by omega) (by omega) (by simp) (by simp) fun v s4 hv d4 f4 => ?_
  have F : Fr d c st s4 := ((((f1.trans f2).trans (.app _)).trans f3).trans (.app _)).trans f4
  simp only [List.mem_cons, List.not_mem_nil, or_false] at hv
  rcases hv with rfl | rfl | rfl
  · exact ⟨some (z, 0), rfl, ⟨z0, z1, .inl rfl⟩, d4, F⟩
  · exact ⟨some (z, 1), rfl, ⟨z0, z1, .inr rfl⟩, d4, F⟩
  · exact ⟨none, rfl, trivial, d4, F⟩
/-! ### round -/
theorem top_byte {N : Int} : (le 8 N).reverse.getD 0 0 = N / 256 ^ 7 % 256 := by
  rw [show (8 : Nat) = 7 + 1 from rfl, le_succ, List.reverse_append]
  rfl
theorem stOf_le {s : Int} (h0 : 0 ≤ s) (h1 : s < 4611686018427387904) : stOf (le 8 (4611686018427387904 + s)).reverse = some s := by
  unfold stOf
  rw [top_byte, List.reverse_reverse, nm_le_of (by omega) (by
    have : (256 : Int) ^ 8 = 18446744073709551616 := by decide
    omega)]
  have e : (256 : Int) ^ 7 = 72057594037927936 := by decide
  rw [e, if_pos ⟨by omega, by omega⟩]
  congr 1
  omega
theorem rs_sd {n : Nm} (h : NmOk n) : rs (sd n) = some n := by
  cases n with
  | none => rfl
  | some p =>
    obtain ⟨a, f⟩ := p
    obtain ⟨h1, h2, h3⟩ := h
    have e1 : ((le 8 (4611686018427387904 + a)).reverse ++ [f]).take 8 = (le 8 (4611686018427387904 + a)).reverse := by
      rw [List.take_append_of_le_length (by simp [le_length]), List.take_of_length_le (by simp [le_length])]
    have e2 : ((le 8 (4611686018427387904 + a)).reverse ++ [f]).getD 8 0 = f := by
      rw [List.getD_eq_getElem?_getD, List.getElem?_append_right (by simp [le_length])]
      simp [le_length]
    unfold rs sd
    simp only
    rw [if_neg, e1, stOf_le h1 h2, e2]
    · simp only
      rw [if_pos (by omega)]
    · intro z
      have := congrArg (fun l => l.getD 8 0) z
      simp only [e2] at this
      have h4 : f = 2 := this
      omega
theorem frOf_fp {n s : Int} {m : Nm} (hn : 0 ≤ n) (h : n < 4294967296) (h0 : 0 ≤ s) (hs : s < 4611686018427387904) (hm : NmOk m) : frOf (fpB n s m) = .tup [.int n, .int s, nmV m] := by
  have l4 := le_length 4 n
  have l8 : (le 8 (4611686018427387904 + s)).reverse.length = 8 := by simp [le_length]
  have l9 := sd_len m
  have e0 : (fpB n s m).length = 21 := by simp only [fpB, List.length_append]; omega
  have e1 : (fpB n s m).drop 12 = sd m := by
    unfold fpB
    rw [List.drop_append_of_le_length (by simp only [List.length_append]; omega), List.drop_of_length_le (by simp only [List.length_append]; omega), List.nil_append]
  have e2 : ((fpB n s m).drop 4).take 8 = (le 8 (4611686018427387904 + s)).reverse := by
    unfold fpB
    rw [List.append_assoc, List.drop_append_of_le_length (by omega), List.drop_of_length_le (by omega), List.nil_append, List.take_append_of_le_length (by omega), List.take_of_length_le (by omega)]
  have e3 : (fpB n s m).take 4 = le 4 n := by
    unfold fpB
    rw [List.append_assoc, List.take_append_of_le_length (by omega), List.take_of_length_le (by omega)]
  unfold frOf
  rw [if_pos e0, e1, e2, e3, rs_sd hm, stOf_le h0 hs, nm_le_of hn h]
theorem arOf_ap {n : Int} {m : Nm} (hn : 0 ≤ n) (h : n < 4294967296) (hm : NmOk m) : arOf (apB n m) = .tup [.int n, nmV m] := by
  have l4 := le_length 4 n
  have l9 := sd_len m
  have e0 : (apB n m).length = 13 := by simp only [apB, List.length_append]; omega
  have e1 : (apB n m).drop 4 = sd m := by
    unfold apB
    rw [List.drop_append_of_le_length (by omega), List.drop_of_length_le (by omega), List.nil_append]
  have e3 : (apB n m).take 4 = le 4 n := by
    unfold apB
    rw [List.take_append_of_le_length (by omega), List.take_of_length_le (by omega)]
  unfold arOf
  rw [if_pos e0, e1, e3, rs_sd hm, nm_le_of hn h]
end Lw

namespace Lw
open PySem L2 Sm
theorem seq_par (i j : Nat) (aa : Ax) (b : Sx) (env : Sm.Env) (st : Sto) (D : Dn) : OkS (sSeq (sPar i j aa) b env st) D = Ok (aa env st) fun xs s => ∃ x y, xs = [x, y] ∧ OkS (b ((env.set i (some x)).set j (some y)) s) D := by
  rw [OkS_seq, sPar_eq, OkS_to]
  congr 1
  funext xs s
  match xs with
  | [x, y] => exact propext ⟨fun h => ⟨x, y, rfl, h⟩, fun ⟨_, _, e, h⟩ => by cases e; exact h⟩
  | [] => simp
  | [_] => simp
  | _ :: _ :: _ :: _ => simp
theorem seq_par3 (i j l : Nat) (aa : Ax) (b : Sx) (env : Sm.Env) (st : Sto) (D : Dn) : OkS (sSeq (sPar3 i j l aa) b env st) D = Ok (aa env st) fun xs s => ∃ x y z, xs = [x, y, z] ∧ OkS (b (((env.set i (some x)).set j (some y)).set l (some z)) s) D := by
  rw [OkS_seq, sPar3_eq, OkS_to]
  congr 1
  funext xs s
  match xs with
  | [x, y, z] => exact propext ⟨fun h => ⟨x, y, z, rfl, h⟩, fun ⟨_, _, _, e, h⟩ => by cases e; exact h⟩
  | [] => simp
  | [_] => simp
  | [_, _] => simp
  | _ :: _ :: _ :: _ :: _ => simp
def nmD : Nm → PyData
  | none => .none
  | some p => .tuple [.int p.1, .int p.2]
theorem nm_pd (n : Nm) (st : Sto) : Pd 1 st (nmV n) (nmD n) := by
  cases n with
  | none => exact Pd.non.mono (by decide)
  | some p => exact Pd.tup (PdA.ivs (k := 0) [p.1, p.2])
theorem nm_v (n : Nm) : okV (nmV n) = true := by cases n <;> rfl
theorem nm_sb {n : Nm} (h : NmOk n) : SB 2 10 (nmD n) := by
  cases n with
  | none => exact SB.non.mono (by decide) (by decide)
  | some p =>
    obtain ⟨h1, h2, h3⟩ := h
    have : SBs 1 2 ([p.1, p.2].map PyData.int) := SBs.ivs (xs := [p.1, p.2]) fun x hx => by
      simp only [List.mem_cons, List.not_mem_nil, or_false] at hx
      rcases hx with rfl | rfl
      · exact ⟨h1, Int.lt_trans h2 (by decide)⟩
      · rcases h3 with e | e <;> rw [e] <;> decide
    exact (SB.tup this).mono (by decide) (by decide)
theorem fp_oct {n s : Int} {m : Nm} (hm : NmOk m) : Oct (fpB n s m) := fun x hx => by
  unfold fpB at hx
  rcases List.mem_append.mp hx with w | w
  · rcases List.mem_append.mp w with w | w
    · exact le_oct _ _ x w
    · exact le_oct _ _ x (List.mem_reverse.mp w)
  · exact sd_oct hm x w
theorem fp_len (n s : Int) (m : Nm) : (fpB n s m).length = 21 := by simp [fpB, le_length, sd_len]
theorem ap_oct {n : Int} {m : Nm} (hm : NmOk m) : Oct (apB n m) := fun x hx => by
  unfold apB at hx
  rcases List.mem_append.mp hx with w | w
  · exact le_oct _ _ x w
  · exact sd_oct hm x w
theorem ap_len (n : Int) (m : Nm) : (apB n m).length = 13 := by simp [apB, le_length, sd_len]
theorem oct_pd {bs : List Int} {v : Val} {st : Sto} (h : v = .tup (ivs bs) ∨ v = .kt (ivs bs)) : Pd 1 st v (.tuple (bs.map PyData.int)) := by
  rcases h with rfl | rfl
  · exact Pd.tup (PdA.ivs bs)
  · exact Pd.kt (PdA.ivs bs)
theorem oct_v {bs : List Int} {v : Val} (h : v = .tup (ivs bs) ∨ v = .kt (ivs bs)) : okV v = true := by rcases h with rfl | rfl <;> rfl
theorem stOf_pos {bs : List Int} {z : Int} (h : Oct bs) (hl : bs.length = 8) (e : stOf bs = some z) : 0 ≤ z ∧ z < 4611686018427387904 := by
  cases bs with
  | nil => cases hl
  | cons b r =>
    unfold stOf at e
    have eb : (b :: r).getD 0 0 = b := rfl
    rw [eb] at e
    by_cases hc : 64 ≤ b ∧ b < 128
    · rw [if_pos hc] at e
      cases e
      have hr : Oct r.reverse := fun x hx => h x (List.mem_cons_of_mem _ (List.mem_reverse.mp hx))
      have b7 := nm_bound hr
      have l7 : r.reverse.length = 7 := by rw [List.length_reverse]; simp only [List.length_cons] at hl; omega
      rw [l7] at b7
      rw [List.reverse_cons, nm_append, l7]
      simp only [nm, Int.mul_zero, Int.add_zero]
      have e7 : (256 : Int) ^ 7 = 72057594037927936 := by decide
      rw [e7] at b7 ⊢
      omega
    · rw [if_neg hc] at e
      cases e
theorem rs_small {bs : List Int} (h : Oct bs) {n : Nm} (hl : bs.length = 9) (e : rs bs = some n) : NmOk n := by
  unfold rs at e
  by_cases c0 : bs = [0, 0, 0, 0, 0, 0, 0, 0, 2]
  · rw [if_pos c0] at e
    cases e
    trivial
  · rw [if_neg c0] at e
    cases hs : stOf (bs.take 8) with
    | none => rw [hs] at e; cases e
    | some z =>
      rw [hs] at e
      simp only at e
      have hz := stOf_pos (oct_take h 8) (by rw [List.length_take]; omega) hs
      by_cases hb : bs.getD 8 0 < 2
      · rw [if_pos hb] at e
        cases e
        have h8 : 0 ≤ bs.getD 8 0 := by
          rw [List.getD_eq_getElem?_getD]
          cases q : bs[8]? with
          | none => simp
          | some x => exact (h x (List.mem_of_getElem? q)).1
        exact ⟨hz.1, hz.2, by simp only; omega⟩
      · rw [if_neg hb] at e
        cases e
/-- what the two payload readers give, as data -/
theorem fr_data {bs : List Int} (h : Oct bs) : okV (frOf bs) = true ∧ ∃ d, (∀ st, Pd 2 st (frOf bs) d) ∧ SB 4 1000 d := by
  have non : okV .non = true ∧ ∃ d, (∀ st, Pd 2 st .non d) ∧ SB 4 1000 d := ⟨rfl, .none, fun st => Pd.non.mono (by decide), SB.non.mono (by decide) (by decide)⟩
  unfold frOf
  by_cases c0 : bs.length = 21
  · rw [if_pos c0]
    cases hr : rs (bs.drop 12) with
    | none => exact non
    | some n =>
      cases hs : stOf ((bs.drop 4).take 8) with
      | none => exact non
      | some z =>
        have hn := rs_small (oct_drop h 12) (by rw [List.length_drop]; omega) hr
        have hz := stOf_pos (oct_take (oct_drop h 4) 8) (by rw [List.length_take, List.length_drop]; omega) hs
        have h4 := nm_small (k := 4) (oct_take h 4) (by rw [List.length_take]; omega) (by decide)
        exact ⟨rfl, _, fun st => Pd.tup (.cons ((Pd.int _).mono (Nat.zero_le _)) (.cons ((Pd.int _).mono (Nat.zero_le _)) (.cons (nm_pd n st) .nil))), (SB.tup (SBs.cons (SB.int h4.1 h4.2) (SBs.cons (SB.int hz.1 (Int.lt_trans hz.2 (by decide))) (SBs.cons (nm_sb hn) .nil)))).mono (by decide) (by decide)⟩
  · rw [if_neg c0]; exact non
theorem ar_data {bs : List Int} (h : Oct bs) : okV (arOf bs) = true ∧ ∃ d, (∀ st, Pd 2 st (arOf bs) d) ∧ SB 4 1000 d := by
  have non : okV .non = true ∧ ∃ d, (∀ st, Pd 2 st .non d) ∧ SB 4 1000 d := ⟨rfl, .none, fun st => Pd.non.mono (by decide), SB.non.mono (by decide) (by decide)⟩
  unfold arOf
  by_cases c0 : bs.length = 13
  · rw [if_pos c0]
    cases hr : rs (bs.drop 4) with
    | none => exact non
    | some n =>
      have hn := rs_small (oct_drop h 4) (by rw [List.length_drop]; omega) hr
      have h4 := nm_small (k := 4) (oct_take h 4) (by rw [List.length_take]; omega) (by decide)
      exact ⟨rfl, _, fun st => Pd.tup (.cons ((Pd.int _).mono (Nat.zero_le _)) (.cons (nm_pd n st) .nil)), (SB.tup (SBs.cons (SB.int h4.1 h4.2) (SBs.cons (nm_sb hn) .nil))).mono (by decide) (by decide)⟩
  · rw [if_neg c0]; exact non
end Lw

namespace Lw
open PySem L2 Sm
theorem seq_same {A B : Ex} {b : Sx} {env : Sm.Env} {st : Sto} {D : Dn} (h : Ok (A env st) fun v s => ∃ d, Pd 6 s v d ∧ SB 10 5000 d ∧ Ok (B env s) fun v' s' => Pd 6 s' v' d ∧ OkS (b env s') D) :
    OkS (sSeq (sIf (tVal (eOp (oEq true) (eCall (one' oRepr) (aCons A aNil)) (eCall (one' oRepr) (aCons B aNil)))) (sRet (eC (.bl false))) sNil) b env st) D := by
  rw [seq_if]
  simp only [Ok_tVal, Ok_op, Ok_call, Ok_aCons, Ok_aNil]
  refine h.imp fun v s ⟨d, p, sb, q⟩ => ?_
  rw [show one' oRepr [v] s = oRepr v s from rfl, repr_ok p sb (by decide) (by decide) (by decide), Ok_ok]
  refine q.imp fun v' s' ⟨p', q'⟩ => ?_
  rw [show one' oRepr [v'] s' = oRepr v' s' from rfl, repr_ok p' sb (by decide) (by decide) (by decide), Ok_ok, oEq_str, Ok_ok]
  refine ⟨_, rfl, ?_⟩
  simp only [decide_true, Bool.not_true, if_true, Bool.false_eq_true, if_false, sNil_eq, OkS_nx]
  exact q'
theorem same_ret {A B : Ex} {env : Sm.Env} {st : Sto} {D : Dn} (h : Ok (A env st) fun v s => ∃ d, Pd 6 s v d ∧ SB 10 5000 d ∧ Ok (B env s) fun v' s' => Pd 6 s' v' d ∧ D.rt (.bl true) s') :
    OkS (sRet (eOp (oEq false) (eCall (one' oRepr) (aCons A aNil)) (eCall (one' oRepr) (aCons B aNil))) env st) D := by
  rw [OkS_ret]
  simp only [Ok_op, Ok_call, Ok_aCons, Ok_aNil]
  refine h.imp fun v s ⟨d, p, sb, q⟩ => ?_
  rw [show one' oRepr [v] s = oRepr v s from rfl, repr_ok p sb (by decide) (by decide) (by decide), Ok_ok]
  refine q.imp fun v' s' ⟨p', q'⟩ => ?_
  rw [show one' oRepr [v'] s' = oRepr v' s' from rfl, repr_ok p' sb (by decide) (by decide) (by decide), Ok_ok, oEq_str, Ok_ok]
  simp only [decide_true, Bool.false_eq_true, if_false]
  exact q'
theorem Pd_up {k j : Nat} {st : Sto} {x : Val} {d : PyData} (h : Pd k st x d) (hk : k ≤ j := by decide) : Pd j st x d := h.mono hk
theorem SB_up {n m n' m' : Nat} {d : PyData} (h : SB n m d) (h1 : n ≤ n' := by decide) (h2 : m ≤ m' := by decide) : SB n' m' d := h.mono h1 h2
theorem sb_bs {bs : List Int} (h : Oct bs) (hl : bs.length ≤ 900) : SB 2 900 (.tuple (bs.map PyData.int)) := sb_oct h hl
/-- law_low(n, 4) + law_high(2 ** 62 + s, 8) + law_said(m) -/
theorem lfirst_ok {st : Sto} {n s : Int} {m : Nm} {Q : Val → Sto → Prop} (hn : 0 ≤ n) (h0 : 0 ≤ s) (hm : NmOk m) (k : ∀ q, st <+: q → Q (.tup (ivs (fpB n s m))) q) :
    Ok (m__law_low [.int n, .int 4] st) (fun x s1 => Ok (m__law_high [.int (4611686018427387904 + s), .int 8] s1) fun y s2 => Ok (oAdd x y s2) fun z s3 => Ok (m__law_said [nmV m] s3) fun v s4 => Ok (oAdd z v s4) Q) := by
  rw [low_fn (z := 4) (k := 4) rfl hn (by decide), Ok_ok, high_fn (by omega), Ok_ok, oAdd_ivs (by simp [le_length]), Ok_ok]
  refine (lsaid_ok hm).imp fun v q ⟨e, hp⟩ => ?_
  subst e
  rw [oAdd_ivs (by simp [le_length, sd_len]), Ok_ok]
  exact k _ (((List.prefix_append _ _).trans (List.prefix_append _ _)).trans hp)
theorem lanswer_ok {st : Sto} {n : Int} {m : Nm} {Q : Val → Sto → Prop} (hn : 0 ≤ n) (hm : NmOk m) (k : ∀ q, st <+: q → Q (.tup (ivs (apB n m))) q) :
    Ok (m__law_low [.int n, .int 4] st) (fun x s1 => Ok (m__law_said [nmV m] s1) fun v s4 => Ok (oAdd x v s4) Q) := by
  rw [low_fn (z := 4) (k := 4) rfl hn (by decide), Ok_ok]
  refine (lsaid_ok hm).imp fun v q ⟨e, hp⟩ => ?_
  subst e
  rw [oAdd_ivs (by simp [le_length, sd_len]), Ok_ok]
  exact k _ ((List.prefix_append _ _).trans hp)
theorem fr_pre {d c : Nat} {st s : Sto} (h : st <+: s) : Fr d c st s := by
  obtain ⟨t, rfl⟩ := h
  exact .app t
theorem deal_pre {d c : Nat} {st s : Sto} (h : Deal st d c) (hp : st <+: s) : Deal s d c := by
  obtain ⟨t, rfl⟩ := hp
  exact h.app t
end Lw

namespace Lw
open PySem L2 Sm
noncomputable def endB : Sx :=
  (sRet (eOp (oEq false) (eCall (one' oRepr) (aCons (eCallF m_read_answer_payload [.inl 0] [] (aCons (eVar 10) aNil)) aNil)) (eCall (one' oRepr) (aCons (eVar 11) aNil))))
noncomputable def if13 : Sx :=
  (sIf (tVal (eOp (oEq false) (eCall (one' oLen) (aCons (eVar 10) aNil)) (eC (.int 13)))) (sSeq (sAsg (eCallF m__law_told_name [.inl 0] [] (aCons (eSl (eVar 10) (oPart (eC (.int 4))) oNoP) aNil)) (gNm 6))
    (sAsg (eIf (tVal (eOp (oEq true) (eVar 6) (eLst aNil))) (eTup (aCons (eCallF m__law_number [.inl 0] [] (aCons (eSl (eVar 10) oNoP (oPart (eC (.int 4)))) aNil)) (aCons (eOp oIx (eVar 6) (eC (.int 0))) aNil))) (eC .non)) (gNm 11))) sNil)
noncomputable def restB : Sx := (sSeq (sIf (tVal (eOp (oEq true) (eCall (one' oRepr) (aCons (eCallF m_read_first_payload [.inl 0] [] (aCons (eVar 10) aNil)) aNil)) (eCall (one' oRepr) (aCons (eVar 11) aNil)))) (sRet (eC (.bl false))) sNil)
    (sSeq (sAsg (eC .non) (gNm 11)) (sSeq if13 endB)))
noncomputable def if21 : Sx :=
  (sIf (tVal (eOp (oEq false) (eCall (one' oLen) (aCons (eVar 10) aNil)) (eC (.int 21)))) (sSeq (sAsg (eCallF m__law_told_name [.inl 0] [] (aCons (eSl (eVar 10) (oPart (eC (.int 12))) oNoP) aNil)) (gNm 6))
    (sIf (tAnd' (tVal (eOp (oEq true) (eVar 6) (eLst aNil))) (tAnd' (tVal (eOp oGt (eOp oIx (eVar 10) (eC (.int 4))) (eC (.int 63)))) (tVal (eOp oLt (eOp oIx (eVar 10) (eC (.int 4))) (eC (.int 128)))))) (sAsg (eTup (aCons (eCallF m__law_number [.inl 0] [] (aCons (eSl (eVar 10) oNoP (oPart (eC (.int 4)))) aNil)) (aCons (eOp oSub (eCallF m__law_number [.inl 0] [] (aCons (eRev (eSl (eVar 10) (oPart (eC (.int 4))) (oPart (eC (.int 12))))) aNil)) (eOp oPow (eC (.int 2)) (eC (.int 62)))) (aCons (eOp oIx (eVar 6) (eC (.int 0))) aNil)))) (gNm 11)) sNil)) sNil)
noncomputable def tailB : Sx := (sSeq (sPar 11 6 (aCons (eC .non) (aCons (eLst aNil) aNil))) (sSeq if21 restB))
theorem ne_empty {st : Sto} {l : Nat} {r : Option Nm} (h : st[l]? = some (.lst (rsL r))) : oEq true (.loc l) (.loc st.length) (st ++ [Ob.lst []]) = .ok (.bl r.isSome) (st ++ [Ob.lst []]) := by
  have h' : (st ++ [Ob.lst []])[l]? = some (.lst (rsL r)) := by rw [List.getElem?_append_left (List.getElem?_eq_some_iff.mp h).1]; exact h
  have e2 : pd (st ++ [Ob.lst []]) deep (.loc st.length) = some (.list []) := Pd.lst (k := 0) at_new .nil deep (by decide)
  have e3 : SeqAt.shaped (.list []) = true := shaped_ivsL []
  have e4 : ∃ ds, pd (st ++ [Ob.lst []]) deep (.loc l) = some (.list ds) ∧ SeqAt.shaped (.list ds) = true ∧ PyData.eqv (.list ds) (.list []) = !r.isSome := by
    cases r with
    | none => exact ⟨[], Pd.lst (k := 0) h' .nil deep (by decide), e3, by simp [PyData.eqv, PyData.eqvAll]⟩
    | some n =>
      refine ⟨[nmD n], Pd.lst (k := 1) h' (.cons (nm_pd n _) .nil) deep (by decide), ?_, by simp [PyData.eqv, PyData.eqvAll]⟩
      cases n <;> simp [nmD, SeqAt.shaped, PyData.canLay0, PyData.canLayAll0, PyData.depth, PyData.depthAll]
  obtain ⟨ds, q1, q2, q3⟩ := e4
  unfold oEq
  simp only [strPair]
  unfold oEqD
  rw [q1, e2]
  simp only [q2, e3, Bool.and_self, if_true, q3, Bool.not_not]

section
variable {st0 st : Sto} {d c : Nat} {bs : List Int} {e0 e1 e2 e3 e4 e5 e6 e7 e8 e9 e11 : Option Val}
abbrev DD (st0 : Sto) (d c : Nat) : Dn := { rt := fun v s => v = .bl true ∧ Deal s d c ∧ Fr d c st0 s }
theorem end_ok (h : Deal st d c) (f : Fr d c st0 st) (ho : Oct bs) (hl : bs.length ≤ 800) : OkS (endB [e0, e1, e2, e3, e4, e5, e6, e7, e8, e9, some (.tup (ivs bs)), some (arOf bs)] st) (DD st0 d c) := by
  obtain ⟨hv, dd, p, sb⟩ := ar_data ho
  unfold endB
  refine same_ret ?_
  simp only [Ok_callF, Ok_aCons, Ok_aNil, Ok_varI, List.getElem?_cons_zero, List.getElem?_cons_succ, getV_tup, getV_ok hv, Ok_ok, arr, List.map_cons, List.map_nil, List.getD_cons_zero, List.getD_cons_succ]
  rw [read_answer_ok ho (by omega), Ok_ok]
  exact ⟨dd, Pd_up (p _), SB_up sb, Pd_up (p _), trivial, h, f⟩
theorem sd13_ok (h : Deal st d c) (f : Fr d c st0 st) (ho : Oct bs) (hl : bs.length ≤ 800) : OkS (sSeq if13 endB [e0, e1, e2, e3, e4, e5, e6, e7, e8, e9, some (.tup (ivs bs)), some .non] st) (DD st0 d c) := by
  have l1 : oLen (.tup (ivs bs)) st = .ok (.int bs.length) st := by rw [oLen_tup, ivs_length]
  unfold if13
  rw [seq_if]
  simp only [Ok_tVal, Ok_op, Ok_call, Ok_aCons, Ok_aNil, Ok_C, Ok_varI, List.getElem?_cons_zero, List.getElem?_cons_succ, getV_tup, Ok_ok, one', l1, oEq_int]
  refine ⟨_, rfl, ?_⟩
  by_cases c0 : bs.length = 13
  · have c0' : ((bs.length : Nat) : Int) = 13 := by omega
    simp only [c0', decide_true, if_true, Bool.false_eq_true, if_false]
    have s4 : eSl (eVar 10) (oPart (eC (.int 4))) oNoP [e0, e1, e2, e3, e4, e5, e6, e7, e8, e9, some (.tup (ivs bs)), some .non] st = .ok (.tup (ivs (bs.drop 4))) st := slFrom (a := 4) rfl rfl
    rw [seq_asg]
    simp only [Ok_callF, Ok_aCons, Ok_aNil, s4, Ok_ok, arr, List.map_cons, List.map_nil, List.getD_cons_zero]
    refine (told_name_ok (oct_drop ho 4) (by rw [List.length_drop]; omega)).imp fun v s2 ⟨l, e, q1, q2⟩ => ?_
    subst e
    simp only [List.set_cons_succ, List.set_cons_zero]
    rw [sAsg_eq, OkS_to]
    have t4 : ∀ s, eSl (eVar 10) oNoP (oPart (eC (.int 4))) [e0, e1, e2, e3, e4, e5, some (.loc l), e7, e8, e9, some (.tup (ivs bs)), some .non] s = .ok (.tup (ivs (bs.take 4))) s := fun s => slTo (a := 4) rfl rfl
    have n4 : ∀ s, m__law_number [.tup (ivs (bs.take 4))] s = .ok (.int (nm (bs.take 4))) s := fun s => lnum_ivs (oct_take ho 4) (by rw [List.length_take]; omega)
    simp only [Ok_if, Ok_tVal, Ok_op, Ok_lst, Ok_tup, Ok_callF, Ok_aCons, Ok_aNil, Ok_C, Ok_varI, List.getElem?_cons_zero, List.getElem?_cons_succ, getV_loc, Ok_ok]
    rw [ne_empty q1]
    have fin : ∀ s, st <+: s → OkS (endB [e0, e1, e2, e3, e4, e5, some (.loc l), e7, e8, e9, some (.tup (ivs bs)), some (arOf bs)] s) (DD st0 d c) := fun s hp => end_ok (deal_pre h hp) (f.trans (fr_pre hp)) ho hl
    refine ⟨by simp, _, rfl, ?_⟩
    have ear : arOf bs = match rs (bs.drop 4) with | some n => .tup [.int (nm (bs.take 4)), nmV n] | none => .non := by unfold arOf; rw [if_pos c0]; first | done | (cases rs (bs.drop 4) <;> rfl)
    cases hr : rs (bs.drop 4) with
    | none =>
      rw [hr] at ear
      simp only at ear
      simp only [Option.isSome_none, Bool.false_eq_true, if_false, OkS_nx, List.set_cons_succ, List.set_cons_zero]
      have := fin (s2 ++ [Ob.lst []]) (q2.trans (List.prefix_append _ _))
      rwa [ear] at this
    | some n =>
      rw [hr] at ear q1
      simp only at ear
      have q1' : (s2 ++ [Ob.lst []])[l]? = some (.lst [nmV n]) := pre_get (List.prefix_append _ _) q1
      have i0 : oIx (.loc l) (.int 0) (s2 ++ [Ob.lst []]) = .ok (nmV n) (s2 ++ [Ob.lst []]) := by simp [oIx, seqOf, q1', atI_zero]
      simp only [Option.isSome_some, if_true, t4, Ok_ok, arr, List.map_cons, List.map_nil, List.getD_cons_zero, n4, i0]
      refine ⟨by simp, ?_⟩
      simp only [OkS_nx, List.set_cons_succ, List.set_cons_zero]
      have := fin (s2 ++ [Ob.lst []]) (q2.trans (List.prefix_append _ _))
      rwa [ear] at this
  · have c0' : ¬ ((bs.length : Nat) : Int) = 13 := by omega
    simp only [c0', decide_false, Bool.false_eq_true, if_false, sNil_eq, OkS_nx]
    have ear : arOf bs = .non := by unfold arOf; rw [if_neg c0]
    have := end_ok (e0 := e0) (e1 := e1) (e2 := e2) (e3 := e3) (e4 := e4) (e5 := e5) (e6 := e6) (e7 := e7) (e8 := e8) (e9 := e9) h f ho hl
    rwa [ear] at this
theorem rest_ok (h : Deal st d c) (f : Fr d c st0 st) (ho : Oct bs) (hl : bs.length ≤ 800) : OkS (restB [e0, e1, e2, e3, e4, e5, e6, e7, e8, e9, some (.tup (ivs bs)), some (frOf bs)] st) (DD st0 d c) := by
  obtain ⟨hv, dd, p, sb⟩ := fr_data ho
  unfold restB
  refine seq_same ?_
  simp only [Ok_callF, Ok_aCons, Ok_aNil, Ok_varI, List.getElem?_cons_zero, List.getElem?_cons_succ, getV_tup, getV_ok hv, Ok_ok, arr, List.map_cons, List.map_nil, List.getD_cons_zero, List.getD_cons_succ]
  rw [read_first_ok ho (by omega), Ok_ok]
  refine ⟨dd, Pd_up (p _), SB_up sb, Pd_up (p _), ?_⟩
  rw [seq_asg, Ok_C]
  simp only [List.set_cons_succ, List.set_cons_zero]
  exact sd13_ok h f ho hl
end
end Lw

namespace Lw
open PySem L2 Sm
section
variable {st0 st : Sto} {d c : Nat} {bs : List Int} {e0 e1 e2 e3 e4 e5 e6 e7 e8 e9 e11 : Option Val}
theorem Ok_tAnd (a b : Tx) (env : Sm.Env) (st : Sto) (Q : Bool → Sto → Prop) : Ok (tAnd' a b env st) Q = Ok (a env st) fun q s => if q = true then Ok (b env s) Q else Q false s := by
  rw [tAnd_eq, Ok_bind]
  congr 1
  funext x s
  cases x <;> rfl
theorem frOf21 (hl : bs.length = 21) : frOf bs = match rs (bs.drop 12) with
    | none => .non
    | some n => if 63 < bs.getD 4 0 ∧ bs.getD 4 0 < 128 then .tup [.int (nm (bs.take 4)), .int (nm ((bs.drop 4).take 8).reverse - 4611686018427387904), nmV n] else .non := by
  have e0 : ((bs.drop 4).take 8).getD 0 0 = bs.getD 4 0 := by
    rw [List.getD_eq_getElem?_getD, List.getD_eq_getElem?_getD, List.getElem?_take_of_lt (by decide), List.getElem?_drop]
  unfold frOf stOf
  rw [if_pos hl, e0]
  cases rs (bs.drop 12) with
  | none => rfl
  | some n =>
    by_cases hc : 64 ≤ bs.getD 4 0 ∧ bs.getD 4 0 < 128
    · rw [if_pos hc]
      have : 63 < bs.getD 4 0 ∧ bs.getD 4 0 < 128 := by omega
      simp only [this, and_self, if_true]
    · rw [if_neg hc]
      have : ¬ (63 < bs.getD 4 0 ∧ bs.getD 4 0 < 128) := by omega
      simp only [this, if_false]
theorem sd21_ok (h : Deal st d c) (f : Fr d c st0 st) (ho : Oct bs) (hl : bs.length ≤ 800) : OkS (sSeq if21 restB [e0, e1, e2, e3, e4, e5, e6, e7, e8, e9, some (.tup (ivs bs)), some .non] st) (DD st0 d c) := by
  have l1 : oLen (.tup (ivs bs)) st = .ok (.int bs.length) st := by rw [oLen_tup, ivs_length]
  unfold if21
  rw [seq_if]
  simp only [Ok_tVal, Ok_op, Ok_call, Ok_aCons, Ok_aNil, Ok_C, Ok_varI, List.getElem?_cons_zero, List.getElem?_cons_succ, getV_tup, Ok_ok, one', l1, oEq_int]
  refine ⟨_, rfl, ?_⟩
  by_cases c0 : bs.length = 21
  · have c0' : ((bs.length : Nat) : Int) = 21 := by omega
    simp only [c0', decide_true, if_true, Bool.false_eq_true, if_false]
    have s12 : eSl (eVar 10) (oPart (eC (.int 12))) oNoP [e0, e1, e2, e3, e4, e5, e6, e7, e8, e9, some (.tup (ivs bs)), some .non] st = .ok (.tup (ivs (bs.drop 12))) st := slFrom (a := 12) rfl rfl
    rw [seq_asg]
    simp only [Ok_callF, Ok_aCons, Ok_aNil, s12, Ok_ok, arr, List.map_cons, List.map_nil, List.getD_cons_zero]
    refine (told_name_ok (oct_drop ho 12) (by rw [List.length_drop]; omega)).imp fun v s2 ⟨l, e, q1, q2⟩ => ?_
    subst e
    simp only [List.set_cons_succ, List.set_cons_zero]
    rw [sIf_eq, OkS_to]
    have fin : ∀ s, st <+: s → OkS (restB [e0, e1, e2, e3, e4, e5, some (.loc l), e7, e8, e9, some (.tup (ivs bs)), some (frOf bs)] s) (DD st0 d c) := fun s hp => rest_ok (deal_pre h hp) (f.trans (fr_pre hp)) ho hl
    have ear := frOf21 c0
    have t4 : ∀ s, eSl (eVar 10) oNoP (oPart (eC (.int 4))) [e0, e1, e2, e3, e4, e5, some (.loc l), e7, e8, e9, some (.tup (ivs bs)), some .non] s = .ok (.tup (ivs (bs.take 4))) s := fun s => slTo (a := 4) rfl rfl
    have n4 : ∀ s, m__law_number [.tup (ivs (bs.take 4))] s = .ok (.int (nm (bs.take 4))) s := fun s => lnum_ivs (oct_take ho 4) (by rw [List.length_take]; omega)
    have t412 : ∀ s, eRev (eSl (eVar 10) (oPart (eC (.int 4))) (oPart (eC (.int 12)))) [e0, e1, e2, e3, e4, e5, some (.loc l), e7, e8, e9, some (.tup (ivs bs)), some .non] s = .ok (.tup (ivs ((bs.drop 4).take 8).reverse)) s := fun s => slRev (slMid (a := 4) (b := 12) rfl rfl rfl)
    have n412 : ∀ s, m__law_number [.tup (ivs ((bs.drop 4).take 8).reverse)] s = .ok (.int (nm ((bs.drop 4).take 8).reverse)) s := fun s => lnum_ivs (oct_rev (oct_take (oct_drop ho 4) 8)) (by rw [List.length_reverse, List.length_take]; omega)
    have i4 : ∀ s, oIx (.tup (ivs bs)) (.int 4) s = .ok (.int (bs.getD 4 0)) s := fun s => getD_ix (j := 4) (by omega) rfl
    have p62 : ∀ st : Sto, oPow (.int 2) (.int 62) st = .ok (.int 4611686018427387904) st := fun _ => rfl
    simp only [Ok_tAnd, Ok_tVal, Ok_op, Ok_lst, Ok_aCons, Ok_aNil, Ok_C, Ok_varI, List.getElem?_cons_zero, List.getElem?_cons_succ, getV_loc, getV_tup, Ok_ok]
    rw [ne_empty q1]
    refine ⟨by simp, _, rfl, ?_⟩
    have pre := q2.trans (List.prefix_append _ [Ob.lst []])
    cases hr : rs (bs.drop 12) with
    | none =>
      rw [hr] at ear
      simp only at ear
      simp only [Option.isSome_none, Bool.false_eq_true, if_false, sNil_eq, OkS_nx]
      have := fin (s2 ++ [Ob.lst []]) pre
      rwa [ear] at this
    | some n =>
      rw [hr] at ear q1
      simp only at ear
      have q1' : (s2 ++ [Ob.lst []])[l]? = some (.lst [nmV n]) := pre_get (List.prefix_append _ _) q1
      have i0 : oIx (.loc l) (.int 0) (s2 ++ [Ob.lst []]) = .ok (nmV n) (s2 ++ [Ob.lst []]) := by simp [oIx, seqOf, q1', atI_zero]
      simp only [Option.isSome_some, if_true, i4, Ok_ok, oInt_eq]
      refine ⟨_, rfl, ?_⟩
      by_cases c1 : 63 < bs.getD 4 0
      · simp only [c1, decide_true, if_true, i4, Ok_ok, oInt_eq]
        refine ⟨_, rfl, ?_⟩
        by_cases c2 : bs.getD 4 0 < 128
        · simp only [c2, decide_true, if_true]
          rw [sAsg_eq, OkS_to]
          simp only [Ok_tup, Ok_op, Ok_callF, Ok_aCons, Ok_aNil, Ok_C, Ok_varI, List.getElem?_cons_zero, List.getElem?_cons_succ, getV_loc, getV_tup, Ok_ok, t4, n4, t412, n412, p62, arr, List.map_cons, List.map_nil, List.getD_cons_zero, i0, oInt_eq, if_true]
          refine ⟨by simp, ?_⟩
          simp only [OkS_nx, List.set_cons_succ, List.set_cons_zero]
          have := fin (s2 ++ [Ob.lst []]) pre
          rw [ear, if_pos ⟨c1, c2⟩] at this
          exact this
        · simp only [c2, decide_false, Bool.false_eq_true, if_false, sNil_eq, OkS_nx]
          have := fin (s2 ++ [Ob.lst []]) pre
          rw [ear, if_neg (fun z => c2 z.2)] at this
          exact this
      · simp only [c1, decide_false, Bool.false_eq_true, if_false, sNil_eq, OkS_nx]
        have := fin (s2 ++ [Ob.lst []]) pre
        rw [ear, if_neg (fun z => c1 z.1)] at this
        exact this
  · have c0' : ¬ ((bs.length : Nat) : Int) = 21 := by omega
    simp only [c0', decide_false, Bool.false_eq_true, if_false, sNil_eq, OkS_nx]
    have ear : frOf bs = .non := by unfold frOf; rw [if_neg c0]
    have := rest_ok (e0 := e0) (e1 := e1) (e2 := e2) (e3 := e3) (e4 := e4) (e5 := e5) (e6 := e6) (e7 := e7) (e8 := e8) (e9 := e9) h f ho hl
    rwa [ear] at this
theorem tail_ok (h : Deal st d c) (f : Fr d c st0 st) (ho : Oct bs) (hl : bs.length ≤ 800) : OkS (tailB [e0, e1, e2, e3, e4, e5, e6, e7, e8, e9, some (.tup (ivs bs)), e11] st) (DD st0 d c) := by
  unfold tailB
  rw [seq_par]
  simp only [Ok_lst, Ok_aCons, Ok_aNil, Ok_C]
  refine ⟨by simp, _, _, rfl, ?_⟩
  simp only [List.set_cons_succ, List.set_cons_zero]
  exact sd21_ok (h.app _) (f.trans (.app _)) ho hl
end
end Lw

namespace Lw
open PySem L2 Sm
noncomputable def midB : Sx :=
    (sSeq (sAsg (eCall (one' oList) (aCons (eCallF m__law_of [.inl 0, .inl 1] [] (aCons (eVar 0) (aCons (eLst (aCons (eVar 4) (aCons (eVar 5) aNil))) aNil))) aNil)) (gNm 7))
    (sSeq (sFor (iRange1 (eCallF m__law_any [.inl 0, .inl 1] [] (aCons (eVar 0) (aCons (eC (.int 3)) aNil)))) (gNm 8)
    (sSub kSetL (eVar 7) (eCallF m__law_any [.inl 0, .inl 1] [] (aCons (eVar 0) (aCons (eCall (one' oLen) (aCons (eVar 7) aNil)) aNil))) (eCallF m__law_of [.inl 0, .inl 1] [] (aCons (eVar 0) (aCons (eLst (aCons (eC (.int 0)) (aCons (eC (.int 1)) (aCons (eC (.int 2)) (aCons (eC (.int 63)) (aCons (eC (.int 64)) (aCons (eC (.int 127)) (aCons (eC (.int 128)) (aCons (eC (.int 255)) (aCons (eCallF m__law_any [.inl 0, .inl 1] [] (aCons (eVar 0) (aCons (eC (.int 256)) aNil))) aNil)))))))))) aNil)))))
    (sSeq (sAsg (eCallF m__law_of [.inl 0, .inl 1] [] (aCons (eVar 0) (aCons (eLst (aCons (eC (.int 0)) (aCons (eC (.int 0)) (aCons (eC (.int 0)) (aCons (eC (.int 1)) aNil))))) aNil))) (gNm 9))
    (sSeq (sAsg (eOp oAdd (eSl (eCall (one' oTuple) (aCons (eVar 7) aNil)) (oPart (eVar 9)) oNoP) (eCallF m__law_octets [.inl 0, .inl 1] [] (aCons (eVar 0) (aCons (eCallF m__law_of [.inl 0, .inl 1] [] (aCons (eVar 0) (aCons (eLst (aCons (eC (.int 0)) (aCons (eC (.int 0)) (aCons (eC (.int 0)) (aCons (eC (.int 1)) aNil))))) aNil))) aNil)))) (gNm 10)) tailB))))
theorem Ok_range {a : Ex} {env : Sm.Env} {st : Sto} {Q : List Val × List (Nat × Ob) → Sto → Prop} (h : Ok (a env st) fun v s => ∃ k : Nat, v = .int (k : Int) ∧ k ≤ 16777216 ∧ Q ((List.range k).map fun (i : Nat) => Val.int (i : Int), []) s) : Ok (iRange1 a env st) Q := by
  obtain ⟨v, s, e, k, rfl, hk, q⟩ := Ok_iff.mp h
  rw [iRange1_ok e rfl hk]
  exact q
theorem OkS_sub (k : Val → Val → Val → Sto → R Unit) (o i a : Ex) (env : Sm.Env) (st : Sto) (D : Dn) : OkS (sSub k o i a env st) D = Ok (a env st) fun x s1 => Ok (o env s1) fun y s2 => Ok (i env s2) fun z s3 => Ok (k y z x s3) fun _ s4 => D.nx env s4 := by
  rw [sSub_eq, OkS_to]
  congr 1
  funext x s
  rw [OkS_to]
  congr 1
  funext x s
  rw [OkS_to]
  congr 1
  funext x s
  rw [OkS_to]
  rfl
theorem log_small {k : Nat} (h : k ≤ 100) (h0 : 0 < k) : ((k : Int)).natAbs.log2 < 9000 := by
  have e : ((k : Int)).natAbs = k := by omega
  rw [e]
  exact (Nat.log2_lt (by omega)).mpr (Nat.lt_of_le_of_lt h (Nat.lt_of_lt_of_le (by decide : 100 < 2 ^ 7) (Nat.pow_le_pow_right (by decide) (by decide))))
theorem mid_ok {st0 st : Sto} {d c : Nat} {fs as : List Int} {e1 e2 e3 e6 e7 e8 e9 e10 e11 : Option Val} (h : Deal st d c) (f : Fr d c st0 st) (hd : d < st0.length) (hc : c < st0.length) (h1 : Oct fs) (h2 : Oct as) (l1 : 0 < fs.length ∧ fs.length ≤ 30) (l2 : 0 < as.length ∧ as.length ≤ 30) :
    OkS (midB [some (.loc d), e1, e2, e3, some (.tup (ivs fs)), some (.tup (ivs as)), e6, e7, e8, e9, e10, e11] st) (DD st0 d c) := by
  have A0 := f.len
  unfold midB
  rw [seq_asg]
  simp only [Ok_call, Ok_callF, Ok_lst, Ok_aCons, Ok_aNil, Ok_varI, List.getElem?_cons_zero, List.getElem?_cons_succ, getV_loc, getV_tup, Ok_ok, arr, List.map_cons, List.map_nil, List.getD_cons_zero, List.getD_cons_succ]
  refine ⟨by simp, of_call (h.app _) at_new (by omega) (by omega) (by simp) (by simp) fun v s1 hv d1 f1 => ?_⟩
  obtain ⟨bs, rfl, hb, lb⟩ : ∃ bs, v = .tup (ivs bs) ∧ Oct bs ∧ 0 < bs.length ∧ bs.length ≤ 30 := by
    simp only [List.mem_cons, List.not_mem_nil, or_false] at hv
    rcases hv with rfl | rfl
    · exact ⟨fs, rfl, h1, l1⟩
    · exact ⟨as, rfl, h2, l2⟩
  have e1' : one' oList [.tup (ivs bs)] s1 = .ok (.loc s1.length) (s1 ++ [Ob.lst (ivs bs)]) := rfl
  rw [e1', Ok_ok]
  simp only [List.set_cons_succ, List.set_cons_zero]
  have A1 := f1.len
  simp only [List.length_append, List.length_cons, List.length_nil] at A1
  have F1 : Fr d c st0 s1 := (f.trans (.app _)).trans f1
  rw [seq_for]
  refine Ok_range ?_
  simp only [Ok_callF, Ok_aCons, Ok_aNil, Ok_C, Ok_varI, List.getElem?_cons_zero, getV_loc, Ok_ok, arr, List.map_cons, List.map_nil, List.getD_cons_zero, List.getD_cons_succ]
  refine any_call any_ok' (d1.app _) (by decide) (by decide) fun r s2 r0 r1 d2 f2 => ?_
  have A2 := f2.len
  simp only [List.length_append, List.length_cons, List.length_nil] at A2
  have hL := f2.at (l := s1.length) at_new (by omega) (by omega)
  refine ⟨r.toNat, by rw [Int.toNat_of_nonneg r0], by omega, ?_⟩
  refine range_items (I := fun j env s => ∃ e8 cs, env = [some (.loc d), e1, e2, e3, some (.tup (ivs fs)), some (.tup (ivs as)), e6, some (.loc s1.length), e8, e9, e10, e11] ∧ s[s1.length]? = some (.lst (ivs cs)) ∧ Oct cs ∧ cs.length = bs.length ∧ Deal s d c ∧ Fr d c st0 s) (fun j env s hj ⟨e8, cs, he, q1, q2, q3, q4, q5⟩ => ?_) (fun env s ⟨e8, cs, he, q1, q2, q3, q4, q5⟩ => ?_) ⟨e8, bs, rfl, hL, hb, rfl, d2, (F1.trans (.app _)).trans f2⟩
  · subst he
    refine ⟨_, rfl, ?_⟩
    simp only [gNm, List.set_cons_succ, List.set_cons_zero]
    rw [OkS_sub]
    simp only [Ok_callF, Ok_call, Ok_lst, Ok_aCons, Ok_aNil, Ok_C, Ok_varI, List.getElem?_cons_zero, List.getElem?_cons_succ, getV_loc, Ok_ok, arr, List.map_cons, List.map_nil, List.getD_cons_zero, List.getD_cons_succ]
    refine any_call any_ok' q4 (by decide) (by decide) fun r3 s3 r30 r31 d3 f3 => ⟨by simp, ?_⟩
    have A3 := q5.len
    have A4 := f3.len
    refine of_call (d3.app _) at_new (by omega) (by omega) (by simp) (by simp) fun v s4 hv d4 f4 => ?_
    obtain ⟨z, rfl, z0, z1⟩ : ∃ z, v = .int z ∧ 0 ≤ z ∧ z < 256 := by
      simp only [List.mem_cons, List.not_mem_nil, or_false] at hv
      rcases hv with rfl | rfl | rfl | rfl | rfl | rfl | rfl | rfl | rfl
      · exact ⟨_, rfl, by decide, by decide⟩
      · exact ⟨_, rfl, by decide, by decide⟩
      · exact ⟨_, rfl, by decide, by decide⟩
      · exact ⟨_, rfl, by decide, by decide⟩
      · exact ⟨_, rfl, by decide, by decide⟩
      · exact ⟨_, rfl, by decide, by decide⟩
      · exact ⟨_, rfl, by decide, by decide⟩
      · exact ⟨_, rfl, by decide, by decide⟩
      · exact ⟨_, rfl, r30, r31⟩
    have F4 := (f3.trans (.app _)).trans f4
    have q14 := F4.at q1 (by omega) (by omega)
    have lL : one' oLen [.loc s1.length] s4 = .ok (.int cs.length) s4 := by simp [one', oLen, seqOf, q14]
    rw [lL, Ok_ok]
    refine any_call any_ok' d4 (by omega) (log_small (by omega) (by omega)) fun j5 s5 j50 j51 d5 f5 => ?_
    have q15 := f5.at q14 (by omega) (by omega)
    obtain ⟨jn, rfl⟩ : ∃ jn : Nat, j5 = (jn : Int) := ⟨j5.toNat, by omega⟩
    have hix : ixN (ivs cs).length (jn : Int) = some jn := by
      rw [ivs_length]
      unfold ixN
      rw [if_pos (by omega), if_pos (by omega), Int.toNat_natCast]
    have es : (ivs cs).set jn (.int z) = ivs (cs.set jn z) := by unfold ivs; rw [List.map_set]
    have k6 : kSetL (.loc s1.length) (.int (jn : Int)) (.int z) s5 = .ok () (s5.set s1.length (.lst (ivs (cs.set jn z)))) := by
      simp only [kSetL, q15, hix, es]
    rw [k6, Ok_ok]
    have hlt : s1.length < s5.length := (List.getElem?_eq_some_iff.mp q15).1
    refine ⟨_, cs.set jn z, rfl, List.getElem?_set_self hlt, fun x hx => ?_, by rw [List.length_set]; exact q3, d5.setOther (by omega) (by omega), ((q5.trans F4).trans f5).setNew (by omega)⟩
    rcases List.mem_or_eq_of_mem_set hx with w | w
    · exact q2 x w
    · rw [w]; exact ⟨z0, z1⟩
  · subst he
    have A3 := q5.len
    simp only
    rw [seq_asg]
    simp only [Ok_callF, Ok_lst, Ok_aCons, Ok_aNil, Ok_C, Ok_varI, List.getElem?_cons_zero, List.getElem?_cons_succ, getV_loc, Ok_ok, arr, List.map_cons, List.map_nil, List.getD_cons_zero, List.getD_cons_succ]
    refine ⟨by simp, of_call (q4.app _) at_new (by omega) (by omega) (by simp) (by simp) fun v s4 hv d4 f4 => ?_⟩
    obtain ⟨cut, rfl⟩ : ∃ cut : Nat, v = .int (cut : Int) := by
      simp only [List.mem_cons, List.not_mem_nil, or_false] at hv
      rcases hv with rfl | rfl | rfl | rfl
      · exact ⟨0, rfl⟩
      · exact ⟨0, rfl⟩
      · exact ⟨0, rfl⟩
      · exact ⟨1, rfl⟩
    have F4 := (q5.trans (.app _)).trans f4
    have A4 := F4.len
    have q14 := f4.at (l := s1.length) (o := .lst (ivs cs)) (by rw [List.getElem?_append_left (List.getElem?_eq_some_iff.mp q1).1]; exact q1) (by omega) (by omega)
    simp only [List.set_cons_succ, List.set_cons_zero]
    have t5 : (eCall (one' oTuple) (aCons (eVar 7) aNil)) [some (.loc d), e1, e2, e3, some (.tup (ivs fs)), some (.tup (ivs as)), e6, some (.loc s1.length), e8, some (.int (cut : Int)), e10, e11] s4 = .ok (.tup (ivs cs)) s4 := by
      simp [one', oTuple, tupOf, lstOf, q14]
    have t6 := sl_tup (lo := oPart (eVar 9)) (hi := oNoP) (l := some (cut : Int)) (h := none) t5 rfl rfl
    rw [cut_ivs, cut_from cs cut rfl] at t6
    rw [seq_asg, Ok_op, t6, Ok_ok]
    simp only [Ok_callF, Ok_lst, Ok_aCons, Ok_aNil, Ok_C, Ok_varI, List.getElem?_cons_zero, List.getElem?_cons_succ, getV_loc, Ok_ok, arr, List.map_cons, List.map_nil, List.getD_cons_zero, List.getD_cons_succ]
    refine ⟨by simp, of_call (d4.app _) at_new (by omega) (by omega) (by simp) (by simp) fun v s6 hv d6 f6 => ?_⟩
    obtain ⟨many, z, rfl, hz, hm1⟩ : ∃ (many : Nat) (z : Int), v = .int z ∧ z = (many : Int) ∧ many ≤ 1 := by
      simp only [List.mem_cons, List.not_mem_nil, or_false] at hv
      rcases hv with rfl | rfl | rfl | rfl
      · exact ⟨0, 0, rfl, rfl, by decide⟩
      · exact ⟨0, 0, rfl, rfl, by decide⟩
      · exact ⟨0, 0, rfl, rfl, by decide⟩
      · exact ⟨1, 1, rfl, rfl, by decide⟩
    refine octets_call (k := many) hz (by omega) d6 fun ds s7 w1 w2 d7 f7 => ?_
    rw [oAdd_ivs (by rw [List.length_drop]; omega), Ok_ok]
    simp only [List.set_cons_succ, List.set_cons_zero]
    refine tail_ok d7 (((F4.trans (.app _)).trans f6).trans f7) (fun x hx => ?_) (by rw [List.length_append, List.length_drop]; omega)
    rcases List.mem_append.mp hx with w | w
    · exact oct_drop q2 _ x w
    · exact w2 x w
end Lw

namespace Lw
open PySem L2 Sm
theorem payloads_ok {st : Sto} {d c : Nat} (h : Deal st d c) : Ok (m__law_payloads [.loc d] st) fun v s => v = .bl true ∧ Deal s d c ∧ Fr d c st s := by
  obtain ⟨hd, hc, hdc⟩ := h.lt
  have p32 : ∀ st : Sto, oPow (.int 2) (.int 32) st = .ok (.int 4294967296) st := fun _ => rfl
  have p62 : ∀ st : Sto, oPow (.int 2) (.int 62) st = .ok (.int 4611686018427387904) st := fun _ => rfl
  unfold m__law_payloads b__law_payloads
  rw [Ok_run]
  simp only [List.map_cons, List.map_nil, List.length_cons, List.length_nil, List.cons_append, List.nil_append, List.replicate]
  rw [seq_par3]
  simp only [Ok_callF, Ok_op, Ok_aCons, Ok_aNil, Ok_C, Ok_varI, List.getElem?_cons_zero, getV_loc, Ok_ok, arr, List.map_cons, List.map_nil, List.getD_cons_zero, List.getD_cons_succ, p32, p62, oInt_eq, if_true]
  refine any_call any_ok' h (by decide) (by decide) fun n s1 n0 n1 d1 f1 => ?_
  refine any_call any_ok' d1 (by decide) (by decide) fun r s2 r0 r1 d2 f2 => ?_
  rw [oAdd_int, Ok_ok]
  refine (name_ok d2).imp fun v s3 ⟨m, e, hm, d3, f3⟩ => ?_
  subst e
  have t0 : 0 ≤ 1 + r := by omega
  have t1 : 1 + r < 4611686018427387904 := by omega
  generalize 1 + r = t at *
  refine ⟨_, _, _, rfl, ?_⟩
  simp only [List.set_cons_succ, List.set_cons_zero]
  rw [seq_par]
  simp only [Ok_callF, Ok_op, Ok_aCons, Ok_aNil, Ok_C, Ok_varI, List.getElem?_cons_zero, List.getElem?_cons_succ, getV_loc, getV_int, getV_ok (nm_v m), Ok_ok, arr, List.map_cons, List.map_nil, List.getD_cons_zero, List.getD_cons_succ, p62, oAdd_int]
  refine lfirst_ok n0 t0 hm fun s4 g4 => ?_
  refine lanswer_ok n0 hm fun s5 g5 => ?_
  refine ⟨_, _, rfl, ?_⟩
  simp only [List.set_cons_succ, List.set_cons_zero]
  have d5 : Deal s5 d c := deal_pre d3 (g4.trans g5)
  have f5 : Fr d c st s5 := ((f1.trans f2).trans f3).trans (fr_pre (g4.trans g5))
  rw [seq_asg]
  simp only [Ok_callF, Ok_lst, Ok_op, Ok_aCons, Ok_aNil, Ok_C, Ok_varI, List.getElem?_cons_zero, List.getElem?_cons_succ, getV_loc, getV_int, getV_ok (nm_v m), Ok_ok, arr, List.map_cons, List.map_nil, List.getD_cons_zero, List.getD_cons_succ]
  refine (said_ok hm).imp fun v1 s6 ⟨e1, g6⟩ => ?_
  refine (said_ok hm).imp fun v2 s7 ⟨e2, g7⟩ => ?_
  rw [two_ok (oct_v e1) (oct_v e2) (oct_pd e1) (oct_pd e2) (sb_bs (sd_oct hm) (by rw [sd_len]; decide)) (by decide) (by decide) (by decide), Ok_ok]
  refine ⟨by simp, ?_⟩
  simp only [List.set_cons_succ, List.set_cons_zero]
  have A1 := f1.len
  have A2 := f2.len
  have A3 := f3.len
  have A4 := g4.length_le
  have A5 := g5.length_le
  have A6 := g6.length_le
  have A7 := g7.length_le
  have ff := fp_oct (n := n) (s := t) hm
  have fl := fp_len n t m
  have af := ap_oct (n := n) hm
  have al := ap_len n m
  have n2 : n < 10 ^ 50 := Int.lt_trans n1 (by decide)
  have t2 : t < 10 ^ 50 := Int.lt_trans t1 (by decide)
  rw [seq_drop]
  simp only [Ok_lm, Ok_callF, Ok_aCons, Ok_aNil, Ok_varI, List.getElem?_cons_zero, List.getElem?_cons_succ, getV_loc, getV_int, getV_ok (nm_v m), Ok_ok, arr, List.map_cons, List.map_nil, List.getD_cons_zero, List.getD_cons_succ]
  refine ⟨isL_at, (fp_ok n0 n1 t0 t1 hm).imp fun w1 s8 ⟨e3, g8⟩ => (fp_ok n0 n1 t0 t1 hm).imp fun w2 s9 ⟨e4, g9⟩ => ?_⟩
  subst e3 e4
  rw [two_ok rfl rfl (oct_pd (.inl rfl)) (oct_pd (.inl rfl)) (sb_bs ff (by omega)) (by decide) (by decide) (by decide), Ok_ok]
  have h9 : s9[s7.length]? = some (.lst [v1]) := pre_get (g8.trans g9) at_new
  have L9 : s7.length < s9.length := (List.getElem?_eq_some_iff.mp h9).1
  have m9 : mAppend (.loc s7.length) [.tup (ivs (fpB n t m))] s9 = .ok .non (s9.set s7.length (.lst [v1, .tup (ivs (fpB n t m))])) := by
    simp only [mAppend, h9]
    rw [if_pos (by simp)]
    rfl
  rw [m9, Ok_ok]
  have d9 : Deal (s9.set s7.length (Ob.lst [v1, .tup (ivs (fpB n t m))])) d c := (deal_pre d5 (((g6.trans g7).trans (List.prefix_append _ _)).trans (g8.trans g9))).setOther (by omega) (by omega)
  have f9 : Fr d c st (s9.set s7.length (Ob.lst [v1, .tup (ivs (fpB n t m))])) := (f5.trans (fr_pre (((g6.trans g7).trans (List.prefix_append _ _)).trans (g8.trans g9)))).setNew (by omega)
  have hn9 : (s9.set s7.length (Ob.lst [v1, .tup (ivs (fpB n t m))]))[s7.length]? = some (.lst [v1, .tup (ivs (fpB n t m))]) := List.getElem?_set_self L9
  generalize hS9 : s9.set s7.length (Ob.lst [v1, .tup (ivs (fpB n t m))]) = S9 at *
  -- repr(told) != repr([law_said(name), first])
  refine seq_same ?_
  simp only [Ok_callF, Ok_lst, Ok_aCons, Ok_aNil, Ok_varI, List.getElem?_cons_zero, List.getElem?_cons_succ, getV_loc, getV_tup, getV_ok (nm_v m), Ok_ok, arr, List.map_cons, List.map_nil, List.getD_cons_zero, List.getD_cons_succ]
  refine ⟨_, Pd_up (Pd.lst hn9 (.cons (oct_pd e1) (.cons (oct_pd (.inl rfl)) .nil))), SB_up (SB.lst (SBs.cons (sb_bs (sd_oct hm) (by rw [sd_len]; decide)) (SBs.cons (sb_bs ff (by omega)) .nil))), ?_⟩
  refine (lsaid_ok hm).imp fun w s10 ⟨e, g10⟩ => ?_
  subst e
  refine ⟨by simp, Pd_up (Pd.lst at_new (.cons (oct_pd (.inl rfl)) (.cons (oct_pd (.inl rfl)) .nil))), ?_⟩
  have d10 := (deal_pre d9 g10).app [Ob.lst [.tup (ivs (sd m)), .tup (ivs (fpB n t m))]]
  have f10 : Fr d c st (s10 ++ [Ob.lst [.tup (ivs (sd m)), .tup (ivs (fpB n t m))]]) := (f9.trans (fr_pre g10)).trans (.app _)
  generalize s10 ++ [Ob.lst [.tup (ivs (sd m)), .tup (ivs (fpB n t m))]] = S10 at *
  -- repr(answer_payload(..)) != repr(answer)
  refine seq_same ?_
  simp only [Ok_callF, Ok_lst, Ok_aCons, Ok_aNil, Ok_varI, List.getElem?_cons_zero, List.getElem?_cons_succ, getV_loc, getV_int, getV_tup, getV_ok (nm_v m), Ok_ok, arr, List.map_cons, List.map_nil, List.getD_cons_zero, List.getD_cons_succ]
  refine (ap_ok n0 n1 hm).imp fun w s11 ⟨e, g11⟩ => ?_
  subst e
  refine ⟨_, Pd_up (oct_pd (.inl rfl)), SB_up (sb_bs af (by omega)), Pd_up (oct_pd (.inl rfl)), ?_⟩
  have d11 := deal_pre d10 g11
  have f11 := f10.trans (fr_pre g11)
  -- the readers of both
  refine seq_same ?_
  simp only [Ok_callF, Ok_lst, Ok_tup, Ok_aCons, Ok_aNil, Ok_varI, List.getElem?_cons_zero, List.getElem?_cons_succ, getV_loc, getV_int, getV_tup, getV_ok (nm_v m), Ok_ok, arr, List.map_cons, List.map_nil, List.getD_cons_zero, List.getD_cons_succ]
  rw [read_first_ok ff (by omega), Ok_ok, read_answer_ok af (by omega), Ok_ok, frOf_fp n0 n1 t0 t1 hm, arOf_ap n0 n1 hm]
  have pdt : ∀ st, Pd 2 st (.tup [.int n, .int t, nmV m]) (.tuple [.int n, .int t, nmD m]) := fun st => Pd.tup (.cons (Pd_up (Pd.int _)) (.cons (Pd_up (Pd.int _)) (.cons (nm_pd m st) .nil)))
  have pda : ∀ st, Pd 2 st (.tup [.int n, nmV m]) (.tuple [.int n, nmD m]) := fun st => Pd.tup (.cons (Pd_up (Pd.int _)) (.cons (nm_pd m st) .nil))
  refine ⟨by simp, _, Pd_up (Pd.lst at_new (.cons (pdt _) (.cons (pda _) .nil))), SB_up (SB.lst (SBs.cons (SB.tup (SBs.cons (SB.int n0 n2) (SBs.cons (SB.int t0 t2) (SBs.cons (nm_sb hm) .nil)))) (SBs.cons (SB.tup (SBs.cons (SB.int n0 n2) (SBs.cons (nm_sb hm) .nil))) .nil))), by simp, by simp, by simp, Pd_up (Pd.lst at_new (.cons (pdt _) (.cons (pda _) .nil))), ?_⟩
  have d12 := (d11.app [Ob.lst [.tup [.int n, .int t, nmV m], .tup [.int n, nmV m]]]).app [Ob.lst [.tup [.int n, .int t, nmV m], .tup [.int n, nmV m]]]
  have f12 : Fr d c st (s11 ++ [Ob.lst [.tup [.int n, .int t, nmV m], .tup [.int n, nmV m]]] ++ [Ob.lst [.tup [.int n, .int t, nmV m], .tup [.int n, nmV m]]]) := (f11.trans (.app _)).trans (.app _)
  generalize s11 ++ [Ob.lst [.tup [.int n, .int t, nmV m], .tup [.int n, nmV m]]] ++ [Ob.lst [.tup [.int n, .int t, nmV m], .tup [.int n, nmV m]]] = S12 at *
  exact (mid_ok d12 f12 hd hc ff af ⟨by omega, by omega⟩ ⟨by omega, by omega⟩).imp (fun _ _ z => z.elim) (fun _ _ z => z) (fun _ _ z => z.elim) (fun _ _ z => z.elim)
end Lw

namespace Lw
open PySem L2 Sm
theorem VOk_v {s : Sto} {v : Val} (h : VOk s v) : okV v = true := by
  rcases h with ⟨bs, rfl, _⟩ | ⟨h, _⟩
  · rfl
  · exact h.ok
theorem append_get {st : Sto} {l : Nat} {xs : List Val} {y : Val} (h : st[l]? = some (.lst xs)) (hz : xs.length < 16777216) : mAppend (.loc l) [y] st = .ok .non (st.set l (.lst (xs ++ [y]))) := by
  simp only [mAppend, h]
  rw [if_pos hz]
theorem isL_get {st : Sto} {l : Nat} {xs : List Val} (h : st[l]? = some (.lst xs)) : isL st (.loc l) = true := by simp [isL, lstOf, h]
noncomputable def turnB : Sx :=
  (sSeq (sAsg (eCallF m__law_value [.inl 0] [] (aCons (eVar 1) aNil)) (gNm 3))
    (sSeq (sIf (tVal (eOp (oEq true) (eCall (one' oRepr) (aCons (eCallF m__law_told [.inl 0] [] (aCons (eVar 3) aNil)) aNil)) (eCall (one' oRepr) (aCons (eCallF m__law_read [.inl 0] [] (aCons (eVar 3) aNil)) aNil)))) (sRet (eC (.bl false))) sNil)
    (sSeq (sPar 4 5 (aCons (eCallF m__law_of [.inl 0, .inl 1] [] (aCons (eVar 1) (aCons (eLst (aCons (eC (.int 0)) (aCons (eOp oSub (eOp oPow (eC (.int 2)) (eC (.int 32))) (eC (.int 1))) (aCons (eCallF m__law_any [.inl 0, .inl 1] [] (aCons (eVar 1) (aCons (eOp oPow (eC (.int 2)) (eC (.int 32))) aNil))) aNil)))) aNil))) (aCons (eCallF m__law_any [.inl 0, .inl 1] [] (aCons (eVar 1) (aCons (eOp oPow (eC (.int 2)) (eC (.int 63))) aNil))) aNil)))
    (sSeq (sAsg (eCallF m__law_octets [.inl 0, .inl 1] [] (aCons (eVar 1) (aCons (eCallF m__law_any [.inl 0, .inl 1] [] (aCons (eVar 1) (aCons (eC (.int 20)) aNil))) aNil))) (gNm 6))
    (sSeq (sAsg (eOp oAdd (eOp oAdd (eTup (aCons (eC (.int 3)) aNil)) (eCallF m__law_low [.inl 0, .inl 1] [] (aCons (eVar 4) (aCons (eC (.int 4)) aNil)))) (eCallF m__law_low [.inl 0, .inl 1] [] (aCons (eVar 5) (aCons (eC (.int 8)) aNil)))) (gNm 7))
    (sSeq (sAsg (eLst (aCons (eOp oAdd (eTup (aCons (eC (.int 1)) aNil)) (eVar 6)) (aCons (eOp oAdd (eOp oAdd (eTup (aCons (eC (.int 2)) aNil)) (eCallF m__law_low [.inl 0, .inl 1] [] (aCons (eVar 4) (aCons (eC (.int 4)) aNil)))) (eVar 6)) (aCons (eVar 7) (aCons (eOp oAdd (eVar 7) (eVar 6)) aNil))))) (gNm 8))
    (sSeq (sAsg (eLst (aCons (eCallF m__law_two [.inl 0, .inl 1] [] (aCons (eCallF m_first_datagram [.inl 0] [] (aCons (eVar 6) aNil)) (aCons (eCallF m_first_datagram [.inl 0] [] (aCons (eVar 6) aNil)) aNil))) aNil)) (gNm 9))
    (sSeq (sDrop (eLm mAppend (eVar 9) (aCons (eCallF m__law_two [.inl 0, .inl 1] [] (aCons (eCallF m_answer_datagram [.inl 0, .inl 1] [] (aCons (eVar 4) (aCons (eVar 6) aNil))) (aCons (eCallF m_answer_datagram [.inl 1, .inl 0] [] (aCons (eVar 6) (aCons (eVar 4) aNil))) aNil))) aNil)))
    (sSeq (sDrop (eLm mAppend (eVar 9) (aCons (eCallF m__law_two [.inl 0, .inl 1] [] (aCons (eCallF m_sealed_head [.inl 0, .inl 1] [] (aCons (eVar 4) (aCons (eVar 5) aNil))) (aCons (eCallF m_sealed_head [.inl 1, .inl 0] [] (aCons (eVar 5) (aCons (eVar 4) aNil))) aNil))) aNil)))
    (sSeq (sDrop (eLm mAppend (eVar 9) (aCons (eCallF m_sealed_datagram [.inl 2, .inl 1, .inl 0] [] (aCons (eVar 6) (aCons (eVar 5) (aCons (eVar 4) aNil)))) aNil)))
    (sSeq (sIf (tVal (eOp (oEq true) (eCall (one' oRepr) (aCons (eVar 9) aNil)) (eCall (one' oRepr) (aCons (eVar 8) aNil)))) (sRet (eC (.bl false))) sNil)
    (sSeq (sAsg (eLst (aCons (eCallF m_read_datagram [.inl 0] [] (aCons (eOp oIx (eVar 8) (eC (.int 0))) aNil)) (aCons (eCallF m_read_datagram [.inl 0] [] (aCons (eOp oIx (eVar 8) (eC (.int 1))) aNil)) (aCons (eCallF m_read_datagram [.inl 0] [] (aCons (eOp oIx (eVar 8) (eC (.int 3))) aNil)) aNil)))) (gNm 10))
    (sSeq (sIf (tVal (eOp (oEq true) (eCall (one' oRepr) (aCons (eVar 10) aNil)) (eCall (one' oRepr) (aCons (eLst (aCons (eTup (aCons (eC (.str ("first" : Str))) (aCons (eVar 6) aNil))) (aCons (eTup (aCons (eC (.str ("answer" : Str))) (aCons (eVar 4) (aCons (eVar 6) aNil)))) (aCons (eTup (aCons (eC (.str ("sealed" : Str))) (aCons (eVar 4) (aCons (eVar 5) (aCons (eVar 6) aNil))))) aNil)))) aNil)))) (sRet (eC (.bl false))) sNil)
    (sIf (tNot' (tVal (eCallF m__law_payloads [.inl 0] [] (aCons (eVar 1) aNil)))) (sRet (eC (.bl false))) sNil))))))))))))))
theorem turn_ok {st : Sto} {d c : Nat} {scr : Val} {e2 e3 e4 e5 e6 e7 e8 e9 e10 : Option Val} {D : Dn} (h : Deal st d c) (k : ∀ e2 e3 e4 e5 e6 e7 e8 e9 e10 s, Deal s d c → D.nx [some scr, some (.loc d), e2, e3, e4, e5, e6, e7, e8, e9, e10] s) :
    OkS (turnB [some scr, some (.loc d), e2, e3, e4, e5, e6, e7, e8, e9, e10] st) D := by
  obtain ⟨hd, hc, hdc⟩ := h.lt
  have p32 : ∀ st : Sto, oPow (.int 2) (.int 32) st = .ok (.int 4294967296) st := fun _ => rfl
  have p63 : ∀ st : Sto, oPow (.int 2) (.int 63) st = .ok (.int 9223372036854775808) st := fun _ => rfl
  unfold turnB
  rw [seq_asg]
  simp only [Ok_callF, Ok_aCons, Ok_aNil, Ok_varI, List.getElem?_cons_zero, List.getElem?_cons_succ, getV_loc, Ok_ok, arr, List.map_cons, List.map_nil, List.getD_cons_zero]
  refine (value_ok h).imp fun v s1 ⟨hv, d1, f1⟩ => ?_
  have A1 := f1.len
  simp only [List.set_cons_succ, List.set_cons_zero]
  refine seq_same ?_
  simp only [Ok_callF, Ok_aCons, Ok_aNil, Ok_varI, List.getElem?_cons_zero, List.getElem?_cons_succ, getV_ok (VOk_v hv), Ok_ok, arr, List.map_cons, List.map_nil, List.getD_cons_zero]
  refine (pair_ok hv).imp fun v1 s2 ⟨g2, hv1, dd, pd1, sb1, kk⟩ => ⟨dd, Pd_up pd1, SB_up sb1, ?_⟩
  refine (kk s2 (List.prefix_refl _)).imp fun v2 s3 ⟨g3, hv2, pd2⟩ => ⟨Pd_up pd2, ?_⟩
  have d3 := deal_pre d1 (g2.trans g3)
  have A3 := (g2.trans g3).length_le
  rw [seq_par]
  simp only [Ok_callF, Ok_lst, Ok_op, Ok_aCons, Ok_aNil, Ok_C, Ok_varI, List.getElem?_cons_zero, List.getElem?_cons_succ, getV_loc, Ok_ok, arr, List.map_cons, List.map_nil, List.getD_cons_zero, List.getD_cons_succ, p32, p63, oInt_eq, if_true]
  refine any_call any_ok' d3 (by decide) (by decide) fun r4 s4 r40 r41 d4 f4 => ⟨by simp, ?_⟩
  have A4 := f4.len
  refine of_call (d4.app _) at_new (by omega) (by omega) (by simp) (by simp) fun v5 s5 hv5 d5 f5 => ?_
  have A5 := f5.len
  simp only [List.length_append, List.length_cons, List.length_nil] at A5
  obtain ⟨n, rfl, n0, n1⟩ : ∃ n, v5 = .int n ∧ 0 ≤ n ∧ n < 4294967296 := by
    simp only [List.mem_cons, List.not_mem_nil, or_false] at hv5
    rcases hv5 with rfl | rfl | rfl
    · exact ⟨_, rfl, by decide, by decide⟩
    · exact ⟨_, rfl, by decide, by decide⟩
    · exact ⟨_, rfl, r40, r41⟩
  refine any_call any_ok' d5 (by decide) (by decide) fun ct s6 c0 c1 d6 f6 => ⟨_, _, rfl, ?_⟩
  have A6 := f6.len
  simp only [List.set_cons_succ, List.set_cons_zero]
  rw [seq_asg]
  simp only [Ok_callF, Ok_aCons, Ok_aNil, Ok_C, Ok_varI, List.getElem?_cons_zero, List.getElem?_cons_succ, getV_loc, Ok_ok, arr, List.map_cons, List.map_nil, List.getD_cons_zero, List.getD_cons_succ]
  refine any_call any_ok' d6 (by decide) (by decide) fun r7 s7 r70 r71 d7 f7 => ?_
  have A7 := f7.len
  refine octets_call (k := r7.toNat) (by omega) (by omega) d7 fun bs s8 b1 b2 d8 f8 => ?_
  have A8 := f8.len
  have bl : bs.length ≤ 20 := by omega
  simp only [List.set_cons_succ, List.set_cons_zero]
  have l4 := le_length 4 n
  have l8 := le_length 8 ct
  rw [seq_asg]
  simp only [Ok_callF, Ok_tup, Ok_op, Ok_aCons, Ok_aNil, Ok_C, Ok_varI, List.getElem?_cons_zero, List.getElem?_cons_succ, getV_int, Ok_ok, arr, List.map_cons, List.map_nil, List.getD_cons_zero, List.getD_cons_succ]
  refine ⟨by simp, ?_⟩
  have h3 : (3 :: le 4 n).length = 5 := by simp only [List.length_cons, l4]
  have h13 : (3 :: (le 4 n ++ le 8 ct)).length = 13 := by simp only [List.length_cons, List.length_append, l4, l8]
  have h2l : (2 :: le 4 n).length = 5 := by simp only [List.length_cons, l4]
  rw [low_fn (z := 4) (k := 4) rfl n0 (by decide), Ok_ok, oAdd_one (by omega), Ok_ok, low_fn (z := 8) (k := 8) rfl c0 (by decide), Ok_ok, oAdd_ivs (by omega), Ok_ok]
  simp only [List.set_cons_succ, List.set_cons_zero, List.cons_append]
  have d9 := (d8.app [Ob.lst (ivs (le 4 n))]).app [Ob.lst (ivs (le 8 ct))]
  generalize s8 ++ [Ob.lst (ivs (le 4 n))] ++ [Ob.lst (ivs (le 8 ct))] = s9 at *
  rw [seq_asg]
  simp only [Ok_callF, Ok_lst, Ok_tup, Ok_op, Ok_aCons, Ok_aNil, Ok_C, Ok_varI, List.getElem?_cons_zero, List.getElem?_cons_succ, getV_int, getV_tup, Ok_ok, arr, List.map_cons, List.map_nil, List.getD_cons_zero, List.getD_cons_succ]
  refine ⟨by simp, ?_⟩
  rw [oAdd_one (by omega), Ok_ok]
  refine ⟨by simp, ?_⟩
  rw [low_fn (z := 4) (k := 4) rfl n0 (by decide), Ok_ok, oAdd_one (by omega), Ok_ok, oAdd_ivs (by omega), Ok_ok, oAdd_ivs (by omega), Ok_ok]
  refine ⟨by simp, ?_⟩
  simp only [List.set_cons_succ, List.set_cons_zero, List.cons_append]
  have d10 := (d9.app [Ob.lst (ivs (le 4 n))])
  generalize s9 ++ [Ob.lst (ivs (le 4 n))] = s10 at *
  have q1 := at_new (st := s10) (o := Ob.lst [.tup (ivs (1 :: bs)), .tup (ivs (2 :: (le 4 n ++ bs))), .tup (ivs (3 :: (le 4 n ++ le 8 ct))), .tup (ivs (3 :: (le 4 n ++ le 8 ct ++ bs)))])
  have d11 := d10.app [Ob.lst [.tup (ivs (1 :: bs)), .tup (ivs (2 :: (le 4 n ++ bs))), .tup (ivs (3 :: (le 4 n ++ le 8 ct))), .tup (ivs (3 :: (le 4 n ++ le 8 ct ++ bs)))]]
  have B10 := d10.lt
  generalize s10.length = ld at *
  generalize s10 ++ [Ob.lst [.tup (ivs (1 :: bs)), .tup (ivs (2 :: (le 4 n ++ bs))), .tup (ivs (3 :: (le 4 n ++ le 8 ct))), .tup (ivs (3 :: (le 4 n ++ le 8 ct ++ bs)))]] = s11 at *
  have o1 : Oct (1 :: bs) := fun x hx => by
    rcases List.mem_cons.mp hx with w | w
    · rw [w]; decide
    · exact b2 x w
  have o2 : Oct (2 :: (le 4 n ++ bs)) := fun x hx => by
    rcases List.mem_cons.mp hx with w | w
    · rw [w]; decide
    · rcases List.mem_append.mp w with w | w
      · exact le_oct _ _ x w
      · exact b2 x w
  have o3 : Oct (3 :: (le 4 n ++ le 8 ct)) := fun x hx => by
    rcases List.mem_cons.mp hx with w | w
    · rw [w]; decide
    · rcases List.mem_append.mp w with w | w
      · exact le_oct _ _ x w
      · exact le_oct _ _ x w
  have o4 : Oct (3 :: (le 4 n ++ le 8 ct ++ bs)) := fun x hx => by
    rcases List.mem_cons.mp hx with w | w
    · rw [w]; decide
    · rcases List.mem_append.mp w with w | w
      · exact o3 x (List.mem_cons_of_mem _ w)
      · exact b2 x w
  have z1 : (1 :: bs).length ≤ 900 := by simp only [List.length_cons]; omega
  have z2 : (2 :: (le 4 n ++ bs)).length ≤ 900 := by simp only [List.length_cons, List.length_append]; omega
  have z3 : (3 :: (le 4 n ++ le 8 ct)).length ≤ 900 := by omega
  have z4 : (3 :: (le 4 n ++ le 8 ct ++ bs)).length ≤ 900 := by simp only [List.length_cons, List.length_append]; omega
  have ct2 : ct < 18446744073709551616 := by omega
  rw [seq_asg]
  simp only [Ok_callF, Ok_lst, Ok_aCons, Ok_aNil, Ok_varI, List.getElem?_cons_zero, List.getElem?_cons_succ, getV_tup, Ok_ok, arr, List.map_cons, List.map_nil, List.getD_cons_zero, List.getD_cons_succ]
  rw [first_ok (by omega), Ok_ok, first_ok (by omega), Ok_ok, two_ok rfl rfl (oct_pd (.inl rfl)) (oct_pd (.inl rfl)) (sb_bs o1 z1) (by decide) (by decide) (by decide), Ok_ok]
  refine ⟨by simp, ?_⟩
  simp only [List.set_cons_succ, List.set_cons_zero]
  have B11 := d11.lt
  have Ld : ld < s11.length := (List.getElem?_eq_some_iff.mp q1).1
  have qt := at_new (st := s11) (o := Ob.lst [.tup (ivs (1 :: bs))])
  have qd := pre_get (List.prefix_append s11 [Ob.lst [.tup (ivs (1 :: bs))]]) q1
  have d12 := d11.app [Ob.lst [.tup (ivs (1 :: bs))]]
  have lt1 : s11.length ≠ d := by omega
  have lt2 : s11.length ≠ c := by omega
  have lt3 : s11.length ≠ ld := by omega
  generalize s11.length = lt at *
  generalize s11 ++ [Ob.lst [.tup (ivs (1 :: bs))]] = s12 at *
  rw [seq_drop]
  simp only [Ok_lm, Ok_callF, Ok_aCons, Ok_aNil, Ok_varI, List.getElem?_cons_zero, List.getElem?_cons_succ, getV_loc, getV_int, getV_tup, Ok_ok, arr, List.map_cons, List.map_nil, List.getD_cons_zero, List.getD_cons_succ]
  refine ⟨isL_get qt, ?_⟩
  rw [answer_ok (by omega) n0 n1, Ok_ok, answer_ok (by omega) n0 n1, Ok_ok, two_ok rfl rfl (oct_pd (.inl rfl)) (oct_pd (.inl rfl)) (sb_bs o2 z2) (by decide) (by decide) (by decide), Ok_ok]
  have g13 : s12 <+: s12 ++ [Ob.lst (ivs (le 4 n))] ++ [Ob.lst (ivs (le 4 n))] := (List.prefix_append _ _).trans (List.prefix_append _ _)
  have qt13 := pre_get g13 qt
  have qd13 := pre_get g13 qd
  have d13 := deal_pre d12 g13
  generalize s12 ++ [Ob.lst (ivs (le 4 n))] ++ [Ob.lst (ivs (le 4 n))] = s13 at *
  rw [append_get qt13 (by simp), Ok_ok]
  have Lt13 : lt < s13.length := (List.getElem?_eq_some_iff.mp qt13).1
  have qt14 : (s13.set lt (.lst ([.tup (ivs (1 :: bs))] ++ [.tup (ivs (2 :: (le 4 n ++ bs)))])))[lt]? = some (.lst ([.tup (ivs (1 :: bs))] ++ [.tup (ivs (2 :: (le 4 n ++ bs)))])) := List.getElem?_set_self Lt13
  have qd14 : (s13.set lt (.lst ([.tup (ivs (1 :: bs))] ++ [.tup (ivs (2 :: (le 4 n ++ bs)))])))[ld]? = _ := (List.getElem?_set_ne lt3).trans qd13
  have d14 := d13.setOther (o := .lst ([.tup (ivs (1 :: bs))] ++ [.tup (ivs (2 :: (le 4 n ++ bs)))])) lt1 lt2
  generalize s13.set lt (.lst ([.tup (ivs (1 :: bs))] ++ [.tup (ivs (2 :: (le 4 n ++ bs)))])) = s14 at *
  rw [seq_drop]
  simp only [Ok_lm, Ok_callF, Ok_aCons, Ok_aNil, Ok_varI, List.getElem?_cons_zero, List.getElem?_cons_succ, getV_loc, getV_int, getV_tup, Ok_ok, arr, List.map_cons, List.map_nil, List.getD_cons_zero, List.getD_cons_succ]
  refine ⟨isL_get qt14, ?_⟩
  rw [head_ok n0 n1 c0 ct2, Ok_ok, head_ok n0 n1 c0 ct2, Ok_ok, two_ok rfl rfl (oct_pd (.inl rfl)) (oct_pd (.inl rfl)) (sb_bs o3 z3) (by decide) (by decide) (by decide), Ok_ok]
  have g15 : s14 <+: s14 ++ [Ob.lst (ivs (le 4 n))] ++ [Ob.lst (ivs (le 8 ct))] ++ [Ob.lst (ivs (le 4 n))] ++ [Ob.lst (ivs (le 8 ct))] := (((List.prefix_append _ _).trans (List.prefix_append _ _)).trans (List.prefix_append _ _)).trans (List.prefix_append _ _)
  have qt15 := pre_get g15 qt14
  have qd15 := pre_get g15 qd14
  have d15 := deal_pre d14 g15
  generalize s14 ++ [Ob.lst (ivs (le 4 n))] ++ [Ob.lst (ivs (le 8 ct))] ++ [Ob.lst (ivs (le 4 n))] ++ [Ob.lst (ivs (le 8 ct))] = s15 at *
  rw [append_get qt15 (by simp), Ok_ok]
  have Lt15 : lt < s15.length := (List.getElem?_eq_some_iff.mp qt15).1
  generalize ht3 : ([.tup (ivs (1 :: bs))] ++ [.tup (ivs (2 :: (le 4 n ++ bs)))] ++ [.tup (ivs (3 :: (le 4 n ++ le 8 ct)))] : List Val) = t3 at *
  have qt16 : (s15.set lt (.lst t3))[lt]? = some (.lst t3) := List.getElem?_set_self Lt15
  have qd16 := (List.getElem?_set_ne (l := s15) (a := Ob.lst t3) lt3).trans qd15
  have d16 := d15.setOther (o := .lst t3) lt1 lt2
  generalize s15.set lt (.lst t3) = s16 at *
  rw [seq_drop]
  simp only [Ok_lm, Ok_callF, Ok_aCons, Ok_aNil, Ok_varI, List.getElem?_cons_zero, List.getElem?_cons_succ, getV_loc, getV_int, getV_tup, Ok_ok, arr, List.map_cons, List.map_nil, List.getD_cons_zero, List.getD_cons_succ]
  refine ⟨isL_get qt16, ?_⟩
  rw [sealed_ok (by omega) n0 n1 c0 ct2, Ok_ok]
  have g17 : s16 <+: s16 ++ [Ob.lst (ivs (le 4 n))] ++ [Ob.lst (ivs (le 8 ct))] := (List.prefix_append _ _).trans (List.prefix_append _ _)
  have qt17 := pre_get g17 qt16
  have qd17 := pre_get g17 qd16
  have d17 := deal_pre d16 g17
  generalize s16 ++ [Ob.lst (ivs (le 4 n))] ++ [Ob.lst (ivs (le 8 ct))] = s17 at *
  rw [append_get qt17 (by rw [← ht3]; simp), Ok_ok]
  have Lt17 : lt < s17.length := (List.getElem?_eq_some_iff.mp qt17).1
  have e4 : t3 ++ [.tup (ivs (3 :: (le 4 n ++ le 8 ct) ++ bs))] = [.tup (ivs (1 :: bs)), .tup (ivs (2 :: (le 4 n ++ bs))), .tup (ivs (3 :: (le 4 n ++ le 8 ct))), .tup (ivs (3 :: (le 4 n ++ le 8 ct ++ bs)))] := by rw [← ht3]; rfl
  rw [e4]
  generalize ht4 : ([.tup (ivs (1 :: bs)), .tup (ivs (2 :: (le 4 n ++ bs))), .tup (ivs (3 :: (le 4 n ++ le 8 ct))), .tup (ivs (3 :: (le 4 n ++ le 8 ct ++ bs)))] : List Val) = t4 at *
  have qt18 : (s17.set lt (.lst t4))[lt]? = some (.lst t4) := List.getElem?_set_self Lt17
  have qd18 := (List.getElem?_set_ne (l := s17) (a := Ob.lst t4) lt3).trans qd17
  have d18 := d17.setOther (o := .lst t4) lt1 lt2
  generalize s17.set lt (.lst t4) = s18 at *
  have pda : ∀ s, PdA 1 s t4 [.tuple ((1 :: bs).map PyData.int), .tuple ((2 :: (le 4 n ++ bs)).map PyData.int), .tuple ((3 :: (le 4 n ++ le 8 ct)).map PyData.int), .tuple ((3 :: (le 4 n ++ le 8 ct ++ bs)).map PyData.int)] := fun s => by
    rw [← ht4]
    exact .cons (oct_pd (.inl rfl)) (.cons (oct_pd (.inl rfl)) (.cons (oct_pd (.inl rfl)) (.cons (oct_pd (.inl rfl)) .nil)))
  refine seq_same ?_
  simp only [Ok_varI, List.getElem?_cons_zero, List.getElem?_cons_succ, getV_loc, Ok_ok]
  refine ⟨_, Pd_up (Pd.lst qt18 (pda _)), SB_up (SB.lst (SBs.cons (sb_bs o1 z1) (SBs.cons (sb_bs o2 z2) (SBs.cons (sb_bs o3 z3) (SBs.cons (sb_bs o4 z4) .nil))))), Pd_up (Pd.lst qd18 (pda _)), ?_⟩
  have i0 : oIx (.loc ld) (.int 0) s18 = .ok (.tup (ivs (1 :: bs))) s18 := by
    have : atI t4 0 = some (.tup (ivs (1 :: bs))) := by rw [← ht4]; exact atI_nat (j := 0) rfl
    simp only [oIx, seqOf, qd18, this]
  have i1 : oIx (.loc ld) (.int 1) s18 = .ok (.tup (ivs (2 :: (le 4 n ++ bs)))) s18 := by
    have : atI t4 1 = some (.tup (ivs (2 :: (le 4 n ++ bs)))) := by rw [← ht4]; exact atI_nat (j := 1) rfl
    simp only [oIx, seqOf, qd18, this]
  have i3 : oIx (.loc ld) (.int 3) s18 = .ok (.tup (ivs (3 :: (le 4 n ++ le 8 ct ++ bs)))) s18 := by
    have : atI t4 3 = some (.tup (ivs (3 :: (le 4 n ++ le 8 ct ++ bs)))) := by rw [← ht4]; exact atI_nat (j := 3) rfl
    simp only [oIx, seqOf, qd18, this]
  have w1 := read_datagram_ok (st := s18) o1 z1
  have w2 := read_datagram_ok (st := s18) o2 z2
  have w4 := read_datagram_ok (st := s18) o4 z4
  rw [rd_first] at w1
  rw [rd_answer n0 n1] at w2
  rw [show (3 :: (le 4 n ++ le 8 ct ++ bs)) = 3 :: (le 4 n ++ le 8 ct) ++ bs from rfl, rd_sealed n0 n1 c0 c1] at w4
  rw [show (3 :: (le 4 n ++ le 8 ct) ++ bs) = (3 :: (le 4 n ++ le 8 ct ++ bs)) from rfl] at w4
  simp only at w1 w2 w4
  rw [seq_asg]
  simp only [Ok_callF, Ok_lst, Ok_op, Ok_aCons, Ok_aNil, Ok_C, Ok_varI, List.getElem?_cons_zero, List.getElem?_cons_succ, getV_loc, Ok_ok, arr, List.map_cons, List.map_nil, List.getD_cons_zero, i0, i1, i3, w1, w2, w4]
  refine ⟨by simp, ?_⟩
  simp only [List.set_cons_succ, List.set_cons_zero]
  have n2 : n < 10 ^ 50 := Int.lt_trans n1 (by decide)
  have c2 : ct < 10 ^ 50 := Int.lt_trans c1 (by decide)
  refine seq_same ?_
  simp only [Ok_lst, Ok_tup, Ok_aCons, Ok_aNil, Ok_C, Ok_varI, List.getElem?_cons_zero, List.getElem?_cons_succ, getV_loc, getV_int, getV_tup, Ok_ok]
  refine ⟨_, Pd_up (Pd.lst at_new (.cons (Pd.tup (.cons (Pd_up (Pd.str _)) (.cons (oct_pd (.inl rfl)) .nil))) (.cons (Pd.tup (.cons (Pd_up (Pd.str _)) (.cons (Pd_up (Pd.int _)) (.cons (oct_pd (.inl rfl)) .nil)))) (.cons (Pd.tup (.cons (Pd_up (Pd.str _)) (.cons (Pd_up (Pd.int _)) (.cons (Pd_up (Pd.int _)) (.cons (oct_pd (.inl rfl)) .nil))))) .nil)))),
    SB_up (SB.lst (SBs.cons (SB.tup (SBs.cons sb_word (SBs.cons (sb_bs b2 (by omega)) .nil))) (SBs.cons (SB.tup (SBs.cons sb_word (SBs.cons (SB.int n0 n2) (SBs.cons (sb_bs b2 (by omega)) .nil)))) (SBs.cons (SB.tup (SBs.cons sb_word (SBs.cons (SB.int n0 n2) (SBs.cons (SB.int c0 c2) (SBs.cons (sb_bs b2 (by omega)) .nil))))) .nil)))), by simp, by simp, by simp, by simp,
    Pd_up (Pd.lst at_new (.cons (Pd.tup (.cons (Pd_up (Pd.str _)) (.cons (oct_pd (.inl rfl)) .nil))) (.cons (Pd.tup (.cons (Pd_up (Pd.str _)) (.cons (Pd_up (Pd.int _)) (.cons (oct_pd (.inl rfl)) .nil)))) (.cons (Pd.tup (.cons (Pd_up (Pd.str _)) (.cons (Pd_up (Pd.int _)) (.cons (Pd_up (Pd.int _)) (.cons (oct_pd (.inl rfl)) .nil))))) .nil)))), ?_⟩
  have dE := (d18.app [Ob.lst [.tup [.str "first", .tup (ivs bs)], .tup [.str "answer", .int n, .tup (ivs bs)], .tup [.str "sealed", .int n, .int ct, .tup (ivs bs)]]]).app [Ob.lst [.tup [.str "first", .tup (ivs bs)], .tup [.str "answer", .int n, .tup (ivs bs)], .tup [.str "sealed", .int n, .int ct, .tup (ivs bs)]]]
  generalize s18 ++ [Ob.lst [.tup [.str "first", .tup (ivs bs)], .tup [.str "answer", .int n, .tup (ivs bs)], .tup [.str "sealed", .int n, .int ct, .tup (ivs bs)]]] ++ [Ob.lst [.tup [.str "first", .tup (ivs bs)], .tup [.str "answer", .int n, .tup (ivs bs)], .tup [.str "sealed", .int n, .int ct, .tup (ivs bs)]]] = sE at *
  rw [sIf_eq, OkS_to, tNot_eq, Ok_bind]
  simp only [Ok_tVal, Ok_callF, Ok_aCons, Ok_aNil, Ok_varI, List.getElem?_cons_zero, List.getElem?_cons_succ, getV_loc, Ok_ok, arr, List.map_cons, List.map_nil, List.getD_cons_zero]
  refine (payloads_ok dE).imp fun v s ⟨e, dF, fF⟩ => ?_
  subst e
  refine ⟨true, rfl, ?_⟩
  simp only [Bool.not_true, Bool.false_eq_true, if_false, sNil_eq, OkS_nx]
  exact k _ _ _ _ _ _ _ _ _ s dF
theorem plain_law : ∀ ns : List Int, ns.length ≤ 63 → (∀ z ∈ ns, Builtin.Int.intBits z ≤ 1048576) → ∃ st', m_law [.scr ns] [] = .ok (.bl true) st' := by
  intro ns _ _
  have h : Ok (m_law [.scr ns] []) fun v _ => v = .bl true := by
    unfold m_law b_law
    rw [Ok_run]
    simp only [List.map_cons, List.map_nil, List.length_cons, List.length_nil, List.cons_append, List.nil_append, List.replicate]
    rw [seq_asg]
    simp only [Ok_callF, Ok_aCons, Ok_aNil, Ok_C, Ok_varI, List.getElem?_cons_zero, Ok_ok, arr, List.map_cons, List.map_nil, List.getD_cons_zero, List.getD_cons_succ]
    refine deal_law.imp fun v s ⟨d, c, e, hD⟩ => ?_
    subst e
    simp only [List.set_cons_succ, List.set_cons_zero]
    rw [seq_for]
    refine Ok_range (Q := _) ⟨5, rfl, by decide, ?_⟩
    refine range_items (I := fun j env s => ∃ e2 e3 e4 e5 e6 e7 e8 e9 e10, env = [some (.scr ns), some (.loc d), e2, e3, e4, e5, e6, e7, e8, e9, e10] ∧ Deal s d c) (fun j env s hj ⟨e2, e3, e4, e5, e6, e7, e8, e9, e10, he, hs⟩ => ?_) (fun env s ⟨e2, e3, e4, e5, e6, e7, e8, e9, e10, he, hs⟩ => ?_) ⟨_, _, _, _, _, _, _, _, _, rfl, hD⟩
    · subst he
      refine ⟨_, rfl, ?_⟩
      simp only [gNm, List.set_cons_succ, List.set_cons_zero]
      exact turn_ok hs fun e2 e3 e4 e5 e6 e7 e8 e9 e10 s hs => ⟨e2, e3, e4, e5, e6, e7, e8, e9, e10, rfl, hs⟩
    · subst he
      simp only [OkS_ret, Ok_C]
  obtain ⟨v, st', e, rfl⟩ := Ok_iff.mp h
  exact ⟨st', e⟩
end Lw

namespace Lw
open PySem L2 Sm
theorem txt_mk {K : PySem.W.Frag} {h : Heap} {mg : Str → Option Value} (X : K.In h) (G : h.Ns mainGlobals mg)
    {tg_ANSWER : Tok}
    {tg_ANSWER_PAYLOAD : Tok}
    {tg_COUNTERS : Tok}
    {tg_FIRST : Tok}
    {tg_FIRST_PAYLOAD : Tok}
    {ag_HEADS : Addr} {dg_HEADS : Option Addr} {ng_HEADS : Nat} {sg_HEADS : Array (Option Value)} {tg_HEADS_0 tg_HEADS_1 tg_HEADS_2 tg_HEADS_3 : Tok}
    {tg_LABEL : Tok}
    {ag_NO_NAME : Addr} {dg_NO_NAME : Option Addr} {ng_NO_NAME : Nat} {sg_NO_NAME : Array (Option Value)} {tg_NO_NAME_0 tg_NO_NAME_1 tg_NO_NAME_2 tg_NO_NAME_3 tg_NO_NAME_4 tg_NO_NAME_5 tg_NO_NAME_6 tg_NO_NAME_7 tg_NO_NAME_8 : Tok}
    {tg_SEALED : Tok}
    {f_first_datagram : Addr} {oc_first_datagram : Value} {od_first_datagram : Option Addr} {kV_first_datagram doc_first_datagram pm_first_datagram : Value} {an_first_datagram : Option Addr} {cd_first_datagram ct_first_datagram : Value} {sl_first_datagram : Array (Option Value)}
    {f_octets_of : Addr} {oc_octets_of : Value} {od_octets_of : Option Addr} {kV_octets_of doc_octets_of pm_octets_of : Value} {an_octets_of : Option Addr} {cd_octets_of ct_octets_of : Value} {sl_octets_of : Array (Option Value)}
    {f_answer_datagram : Addr} {oc_answer_datagram : Value} {od_answer_datagram : Option Addr} {kV_answer_datagram doc_answer_datagram pm_answer_datagram : Value} {an_answer_datagram : Option Addr} {cd_answer_datagram ct_answer_datagram : Value} {sl_answer_datagram : Array (Option Value)}
    {f_sealed_head : Addr} {oc_sealed_head : Value} {od_sealed_head : Option Addr} {kV_sealed_head doc_sealed_head pm_sealed_head : Value} {an_sealed_head : Option Addr} {cd_sealed_head ct_sealed_head : Value} {sl_sealed_head : Array (Option Value)}
    {f_sealed_datagram : Addr} {oc_sealed_datagram : Value} {od_sealed_datagram : Option Addr} {kV_sealed_datagram doc_sealed_datagram pm_sealed_datagram : Value} {an_sealed_datagram : Option Addr} {cd_sealed_datagram ct_sealed_datagram : Value} {sl_sealed_datagram : Array (Option Value)}
    {f_is_integer : Addr} {oc_is_integer : Value} {od_is_integer : Option Addr} {kV_is_integer doc_is_integer pm_is_integer : Value} {an_is_integer : Option Addr} {cd_is_integer ct_is_integer : Value} {sl_is_integer : Array (Option Value)}
    {f_is_below : Addr} {oc_is_below : Value} {od_is_below : Option Addr} {kV_is_below doc_is_below pm_is_below : Value} {an_is_below : Option Addr} {cd_is_below ct_is_below : Value} {sl_is_below : Array (Option Value)}
    {f_wrong_place : Addr} {oc_wrong_place : Value} {od_wrong_place : Option Addr} {kV_wrong_place doc_wrong_place pm_wrong_place : Value} {an_wrong_place : Option Addr} {cd_wrong_place ct_wrong_place : Value} {sl_wrong_place : Array (Option Value)}
    {f_is_octets : Addr} {oc_is_octets : Value} {od_is_octets : Option Addr} {kV_is_octets doc_is_octets pm_is_octets : Value} {an_is_octets : Option Addr} {cd_is_octets ct_is_octets : Value} {sl_is_octets : Array (Option Value)}
    {f_number_of : Addr} {oc_number_of : Value} {od_number_of : Option Addr} {kV_number_of doc_number_of pm_number_of : Value} {an_number_of : Option Addr} {cd_number_of ct_number_of : Value} {sl_number_of : Array (Option Value)}
    {f_is_counter : Addr} {oc_is_counter : Value} {od_is_counter : Option Addr} {kV_is_counter doc_is_counter pm_is_counter : Value} {an_is_counter : Option Addr} {cd_is_counter ct_is_counter : Value} {sl_is_counter : Array (Option Value)}
    {f_read_datagram : Addr} {oc_read_datagram : Value} {od_read_datagram : Option Addr} {kV_read_datagram doc_read_datagram pm_read_datagram : Value} {an_read_datagram : Option Addr} {cd_read_datagram ct_read_datagram : Value} {sl_read_datagram : Array (Option Value)}
    {f__law_deal : Addr} {oc__law_deal : Value} {od__law_deal : Option Addr} {kV__law_deal doc__law_deal pm__law_deal : Value} {an__law_deal : Option Addr} {cd__law_deal ct__law_deal : Value} {sl__law_deal : Array (Option Value)}
    {f__law_any : Addr} {oc__law_any : Value} {od__law_any : Option Addr} {kV__law_any doc__law_any pm__law_any : Value} {an__law_any : Option Addr} {cd__law_any ct__law_any : Value} {sl__law_any : Array (Option Value)}
    {f__law_of : Addr} {oc__law_of : Value} {od__law_of : Option Addr} {kV__law_of doc__law_of pm__law_of : Value} {an__law_of : Option Addr} {cd__law_of ct__law_of : Value} {sl__law_of : Array (Option Value)}
    {f__law_octets : Addr} {oc__law_octets : Value} {od__law_octets : Option Addr} {kV__law_octets doc__law_octets pm__law_octets : Value} {an__law_octets : Option Addr} {cd__law_octets ct__law_octets : Value} {sl__law_octets : Array (Option Value)}
    {f__law_low : Addr} {oc__law_low : Value} {od__law_low : Option Addr} {kV__law_low doc__law_low pm__law_low : Value} {an__law_low : Option Addr} {cd__law_low ct__law_low : Value} {sl__law_low : Array (Option Value)}
    {f__law_value : Addr} {oc__law_value : Value} {od__law_value : Option Addr} {kV__law_value doc__law_value pm__law_value : Value} {an__law_value : Option Addr} {cd__law_value ct__law_value : Value} {sl__law_value : Array (Option Value)}
    {f__law_number : Addr} {oc__law_number : Value} {od__law_number : Option Addr} {kV__law_number doc__law_number pm__law_number : Value} {an__law_number : Option Addr} {cd__law_number ct__law_number : Value} {sl__law_number : Array (Option Value)}
    {f__law_is_octets : Addr} {oc__law_is_octets : Value} {od__law_is_octets : Option Addr} {kV__law_is_octets doc__law_is_octets pm__law_is_octets : Value} {an__law_is_octets : Option Addr} {cd__law_is_octets ct__law_is_octets : Value} {sl__law_is_octets : Array (Option Value)}
    {f__law_read : Addr} {oc__law_read : Value} {od__law_read : Option Addr} {kV__law_read doc__law_read pm__law_read : Value} {an__law_read : Option Addr} {cd__law_read ct__law_read : Value} {sl__law_read : Array (Option Value)}
    {f__law_told : Addr} {oc__law_told : Value} {od__law_told : Option Addr} {kV__law_told doc__law_told pm__law_told : Value} {an__law_told : Option Addr} {cd__law_told ct__law_told : Value} {sl__law_told : Array (Option Value)}
    {f_big_octets_of : Addr} {oc_big_octets_of : Value} {od_big_octets_of : Option Addr} {kV_big_octets_of doc_big_octets_of pm_big_octets_of : Value} {an_big_octets_of : Option Addr} {cd_big_octets_of ct_big_octets_of : Value} {sl_big_octets_of : Array (Option Value)}
    {f_stamp_octets : Addr} {oc_stamp_octets : Value} {od_stamp_octets : Option Addr} {kV_stamp_octets doc_stamp_octets pm_stamp_octets : Value} {an_stamp_octets : Option Addr} {cd_stamp_octets ct_stamp_octets : Value} {sl_stamp_octets : Array (Option Value)}
    {f_said_octets : Addr} {oc_said_octets : Value} {od_said_octets : Option Addr} {kV_said_octets doc_said_octets pm_said_octets : Value} {an_said_octets : Option Addr} {cd_said_octets ct_said_octets : Value} {sl_said_octets : Array (Option Value)}
    {f_first_payload : Addr} {oc_first_payload : Value} {od_first_payload : Option Addr} {kV_first_payload doc_first_payload pm_first_payload : Value} {an_first_payload : Option Addr} {cd_first_payload ct_first_payload : Value} {sl_first_payload : Array (Option Value)}
    {f_need_octets : Addr} {oc_need_octets : Value} {od_need_octets : Option Addr} {kV_need_octets doc_need_octets pm_need_octets : Value} {an_need_octets : Option Addr} {cd_need_octets ct_need_octets : Value} {sl_need_octets : Array (Option Value)}
    {dT_need_octets : Addr} {dd_need_octets : Option Addr} {dn_need_octets : Nat} {ds_need_octets : Array (Option Value)}
    {f_big_number_of : Addr} {oc_big_number_of : Value} {od_big_number_of : Option Addr} {kV_big_number_of doc_big_number_of pm_big_number_of : Value} {an_big_number_of : Option Addr} {cd_big_number_of ct_big_number_of : Value} {sl_big_number_of : Array (Option Value)}
    {f_read_stamp : Addr} {oc_read_stamp : Value} {od_read_stamp : Option Addr} {kV_read_stamp doc_read_stamp pm_read_stamp : Value} {an_read_stamp : Option Addr} {cd_read_stamp ct_read_stamp : Value} {sl_read_stamp : Array (Option Value)}
    {f_read_said : Addr} {oc_read_said : Value} {od_read_said : Option Addr} {kV_read_said doc_read_said pm_read_said : Value} {an_read_said : Option Addr} {cd_read_said ct_read_said : Value} {sl_read_said : Array (Option Value)}
    {f_read_first_payload : Addr} {oc_read_first_payload : Value} {od_read_first_payload : Option Addr} {kV_read_first_payload doc_read_first_payload pm_read_first_payload : Value} {an_read_first_payload : Option Addr} {cd_read_first_payload ct_read_first_payload : Value} {sl_read_first_payload : Array (Option Value)}
    {f_answer_payload : Addr} {oc_answer_payload : Value} {od_answer_payload : Option Addr} {kV_answer_payload doc_answer_payload pm_answer_payload : Value} {an_answer_payload : Option Addr} {cd_answer_payload ct_answer_payload : Value} {sl_answer_payload : Array (Option Value)}
    {f_read_answer_payload : Addr} {oc_read_answer_payload : Value} {od_read_answer_payload : Option Addr} {kV_read_answer_payload doc_read_answer_payload pm_read_answer_payload : Value} {an_read_answer_payload : Option Addr} {cd_read_answer_payload ct_read_answer_payload : Value} {sl_read_answer_payload : Array (Option Value)}
    {f__law_high : Addr} {oc__law_high : Value} {od__law_high : Option Addr} {kV__law_high doc__law_high pm__law_high : Value} {an__law_high : Option Addr} {cd__law_high ct__law_high : Value} {sl__law_high : Array (Option Value)}
    {f__law_name : Addr} {oc__law_name : Value} {od__law_name : Option Addr} {kV__law_name doc__law_name pm__law_name : Value} {an__law_name : Option Addr} {cd__law_name ct__law_name : Value} {sl__law_name : Array (Option Value)}
    {f__law_said : Addr} {oc__law_said : Value} {od__law_said : Option Addr} {kV__law_said doc__law_said pm__law_said : Value} {an__law_said : Option Addr} {cd__law_said ct__law_said : Value} {sl__law_said : Array (Option Value)}
    {f__law_told_name : Addr} {oc__law_told_name : Value} {od__law_told_name : Option Addr} {kV__law_told_name doc__law_told_name pm__law_told_name : Value} {an__law_told_name : Option Addr} {cd__law_told_name ct__law_told_name : Value} {sl__law_told_name : Array (Option Value)}
    {f__law_two : Addr} {oc__law_two : Value} {od__law_two : Option Addr} {kV__law_two doc__law_two pm__law_two : Value} {an__law_two : Option Addr} {cd__law_two ct__law_two : Value} {sl__law_two : Array (Option Value)}
    {f__law_payloads : Addr} {oc__law_payloads : Value} {od__law_payloads : Option Addr} {kV__law_payloads doc__law_payloads pm__law_payloads : Value} {an__law_payloads : Option Addr} {cd__law_payloads ct__law_payloads : Value} {sl__law_payloads : Array (Option Value)}
    {f_law : Addr} {oc_law : Value} {od_law : Option Addr} {kV_law doc_law pm_law : Value} {an_law : Option Addr} {cd_law ct_law : Value} {sl_law : Array (Option Value)}
    {c_InvalidLetter : Addr}
    {c_InvalidOctets : Addr}
    {c_InvalidSize : Addr}
    {c_TunnelError : Addr}
    {t_InvalidLetter i_InvalidLetter k_InvalidLetter : Addr} {nm_InvalidLetter q_InvalidLetter : Str} {N_InvalidLetter : Addr} {bs_InvalidLetter : List Value} {sn_InvalidLetter : List Str} {sub_InvalidLetter : List Value} {ab_InvalidLetter : Bool} {col_InvalidLetter : Option Bool} {dd_InvalidLetter : Option Addr} {k0_InvalidLetter k1_InvalidLetter k2_InvalidLetter k3_InvalidLetter k5_InvalidLetter : Option Value}
    {xoc_InvalidLetter : Value} {xod_InvalidLetter : Option Addr} {xq_InvalidLetter : Str} {xdoc_InvalidLetter xpm_InvalidLetter : Value} {xan_InvalidLetter : Option Addr} {xcd_InvalidLetter : Addr} {xct_InvalidLetter : Value} {xsl_InvalidLetter : Array (Option Value)} {xcl_InvalidLetter : Value} {xcdd_InvalidLetter : Option Addr} {xvs_InvalidLetter : Array Value} {xcs_InvalidLetter : Array (Option Value)} {xfile_InvalidLetter : Str} {xtf_InvalidLetter : Tok} {ycl_InvalidLetter : Value} {ycd_InvalidLetter : Option Addr} {ysl_InvalidLetter : Array (Option Value)}
    {bcv_InvalidLetter : Value} {bdd_InvalidLetter : Option Addr} {bcd_InvalidLetter : ClassData} {bsl_InvalidLetter : Array (Option Value)}
    {t_InvalidOctets i_InvalidOctets k_InvalidOctets : Addr} {nm_InvalidOctets q_InvalidOctets : Str} {N_InvalidOctets : Addr} {bs_InvalidOctets : List Value} {sn_InvalidOctets : List Str} {sub_InvalidOctets : List Value} {ab_InvalidOctets : Bool} {col_InvalidOctets : Option Bool} {dd_InvalidOctets : Option Addr} {k0_InvalidOctets k1_InvalidOctets k2_InvalidOctets k3_InvalidOctets k5_InvalidOctets : Option Value}
    {xoc_InvalidOctets : Value} {xod_InvalidOctets : Option Addr} {xq_InvalidOctets : Str} {xdoc_InvalidOctets xpm_InvalidOctets : Value} {xan_InvalidOctets : Option Addr} {xcd_InvalidOctets : Addr} {xct_InvalidOctets : Value} {xsl_InvalidOctets : Array (Option Value)} {xcl_InvalidOctets : Value} {xcdd_InvalidOctets : Option Addr} {xvs_InvalidOctets : Array Value} {xcs_InvalidOctets : Array (Option Value)} {xfile_InvalidOctets : Str} {xtf_InvalidOctets : Tok} {ycl_InvalidOctets : Value} {ycd_InvalidOctets : Option Addr} {ysl_InvalidOctets : Array (Option Value)}
    {bcv_InvalidOctets : Value} {bdd_InvalidOctets : Option Addr} {bcd_InvalidOctets : ClassData} {bsl_InvalidOctets : Array (Option Value)}
    {t_InvalidSize i_InvalidSize k_InvalidSize : Addr} {nm_InvalidSize q_InvalidSize : Str} {N_InvalidSize : Addr} {bs_InvalidSize : List Value} {sn_InvalidSize : List Str} {sub_InvalidSize : List Value} {ab_InvalidSize : Bool} {col_InvalidSize : Option Bool} {dd_InvalidSize : Option Addr} {k0_InvalidSize k1_InvalidSize k2_InvalidSize k3_InvalidSize k5_InvalidSize : Option Value}
    {xoc_InvalidSize : Value} {xod_InvalidSize : Option Addr} {xq_InvalidSize : Str} {xdoc_InvalidSize xpm_InvalidSize : Value} {xan_InvalidSize : Option Addr} {xcd_InvalidSize : Addr} {xct_InvalidSize : Value} {xsl_InvalidSize : Array (Option Value)} {xcl_InvalidSize : Value} {xcdd_InvalidSize : Option Addr} {xvs_InvalidSize : Array Value} {xcs_InvalidSize : Array (Option Value)} {xfile_InvalidSize : Str} {xtf_InvalidSize : Tok} {ycl_InvalidSize : Value} {ycd_InvalidSize : Option Addr} {ysl_InvalidSize : Array (Option Value)}
    {bcv_InvalidSize : Value} {bdd_InvalidSize : Option Addr} {bcd_InvalidSize : ClassData} {bsl_InvalidSize : Array (Option Value)}
    (zn_abs : PySem.W.nsIn K mainGlobals ("abs" : Str) = some none)
    (zn_bool : PySem.W.nsIn K mainGlobals ("bool" : Str) = some none)
    (zn_enumerate : PySem.W.nsIn K mainGlobals ("enumerate" : Str) = some none)
    (zn_int : PySem.W.nsIn K mainGlobals ("int" : Str) = some none)
    (zn_isinstance : PySem.W.nsIn K mainGlobals ("isinstance" : Str) = some none)
    (zn_len : PySem.W.nsIn K mainGlobals ("len" : Str) = some none)
    (zn_list : PySem.W.nsIn K mainGlobals ("list" : Str) = some none)
    (zn_range : PySem.W.nsIn K mainGlobals ("range" : Str) = some none)
    (zn_repr : PySem.W.nsIn K mainGlobals ("repr" : Str) = some none)
    (zn_tuple : PySem.W.nsIn K mainGlobals ("tuple" : Str) = some none)
    (zg_ANSWER : PySem.W.nsIn K mainGlobals ("ANSWER" : Str) = some (some (.int 2 tg_ANSWER)))
    (zg_ANSWER_PAYLOAD : PySem.W.nsIn K mainGlobals ("ANSWER_PAYLOAD" : Str) = some (some (.int 13 tg_ANSWER_PAYLOAD)))
    (zg_COUNTERS : PySem.W.nsIn K mainGlobals ("COUNTERS" : Str) = some (some (.int 9223372036854775808 tg_COUNTERS)))
    (zg_FIRST : PySem.W.nsIn K mainGlobals ("FIRST" : Str) = some (some (.int 1 tg_FIRST)))
    (zg_FIRST_PAYLOAD : PySem.W.nsIn K mainGlobals ("FIRST_PAYLOAD" : Str) = some (some (.int 21 tg_FIRST_PAYLOAD)))
    (zg_HEADS : PySem.W.nsIn K mainGlobals ("HEADS" : Str) = some (some (.ref ag_HEADS)))
    (zh_HEADS : K.lookup ag_HEADS = some ⟨.type "tuple", dg_HEADS, .seq #[.int 0 tg_HEADS_0, .int 1 tg_HEADS_1, .int 5 tg_HEADS_2, .int 13 tg_HEADS_3] ng_HEADS, sg_HEADS⟩)
    (zg_LABEL : PySem.W.nsIn K mainGlobals ("LABEL" : Str) = some (some (.int 4611686018427387904 tg_LABEL)))
    (zg_NO_NAME : PySem.W.nsIn K mainGlobals ("NO_NAME" : Str) = some (some (.ref ag_NO_NAME)))
    (zh_NO_NAME : K.lookup ag_NO_NAME = some ⟨.type "tuple", dg_NO_NAME, .seq #[.int 0 tg_NO_NAME_0, .int 0 tg_NO_NAME_1, .int 0 tg_NO_NAME_2, .int 0 tg_NO_NAME_3, .int 0 tg_NO_NAME_4, .int 0 tg_NO_NAME_5, .int 0 tg_NO_NAME_6, .int 0 tg_NO_NAME_7, .int 2 tg_NO_NAME_8] ng_NO_NAME, sg_NO_NAME⟩)
    (zg_SEALED : PySem.W.nsIn K mainGlobals ("SEALED" : Str) = some (some (.int 3 tg_SEALED)))
    (za_first_datagram : PySem.W.nsIn K mainGlobals ("first_datagram" : Str) = some (some (.ref f_first_datagram)))
    (zl_first_datagram : K.lookup f_first_datagram = some ⟨oc_first_datagram, od_first_datagram, .func (PySem.W.fnOf ("first_datagram" : Str) ("first_datagram" : Str) (defArgs (top 31)) (defBody (top 31)) (defScope (top 31)) .none kV_first_datagram doc_first_datagram pm_first_datagram an_first_datagram cd_first_datagram ct_first_datagram), sl_first_datagram⟩)
    (zc_first_datagram : PySem.W.codeIn K cd_first_datagram ("first_datagram" : Str) = true)
    (zk_first_datagram : PySem.W.keepIn K (.ref f_first_datagram) = true)
    (za_octets_of : PySem.W.nsIn K mainGlobals ("octets_of" : Str) = some (some (.ref f_octets_of)))
    (zl_octets_of : K.lookup f_octets_of = some ⟨oc_octets_of, od_octets_of, .func (PySem.W.fnOf ("octets_of" : Str) ("octets_of" : Str) (defArgs (top 13)) (defBody (top 13)) (defScope (top 13)) .none kV_octets_of doc_octets_of pm_octets_of an_octets_of cd_octets_of ct_octets_of), sl_octets_of⟩)
    (zc_octets_of : PySem.W.codeIn K cd_octets_of ("octets_of" : Str) = true)
    (zk_octets_of : PySem.W.keepIn K (.ref f_octets_of) = true)
    (za_answer_datagram : PySem.W.nsIn K mainGlobals ("answer_datagram" : Str) = some (some (.ref f_answer_datagram)))
    (zl_answer_datagram : K.lookup f_answer_datagram = some ⟨oc_answer_datagram, od_answer_datagram, .func (PySem.W.fnOf ("answer_datagram" : Str) ("answer_datagram" : Str) (defArgs (top 32)) (defBody (top 32)) (defScope (top 32)) .none kV_answer_datagram doc_answer_datagram pm_answer_datagram an_answer_datagram cd_answer_datagram ct_answer_datagram), sl_answer_datagram⟩)
    (zc_answer_datagram : PySem.W.codeIn K cd_answer_datagram ("answer_datagram" : Str) = true)
    (zk_answer_datagram : PySem.W.keepIn K (.ref f_answer_datagram) = true)
    (za_sealed_head : PySem.W.nsIn K mainGlobals ("sealed_head" : Str) = some (some (.ref f_sealed_head)))
    (zl_sealed_head : K.lookup f_sealed_head = some ⟨oc_sealed_head, od_sealed_head, .func (PySem.W.fnOf ("sealed_head" : Str) ("sealed_head" : Str) (defArgs (top 33)) (defBody (top 33)) (defScope (top 33)) .none kV_sealed_head doc_sealed_head pm_sealed_head an_sealed_head cd_sealed_head ct_sealed_head), sl_sealed_head⟩)
    (zc_sealed_head : PySem.W.codeIn K cd_sealed_head ("sealed_head" : Str) = true)
    (zk_sealed_head : PySem.W.keepIn K (.ref f_sealed_head) = true)
    (za_sealed_datagram : PySem.W.nsIn K mainGlobals ("sealed_datagram" : Str) = some (some (.ref f_sealed_datagram)))
    (zl_sealed_datagram : K.lookup f_sealed_datagram = some ⟨oc_sealed_datagram, od_sealed_datagram, .func (PySem.W.fnOf ("sealed_datagram" : Str) ("sealed_datagram" : Str) (defArgs (top 34)) (defBody (top 34)) (defScope (top 34)) .none kV_sealed_datagram doc_sealed_datagram pm_sealed_datagram an_sealed_datagram cd_sealed_datagram ct_sealed_datagram), sl_sealed_datagram⟩)
    (zc_sealed_datagram : PySem.W.codeIn K cd_sealed_datagram ("sealed_datagram" : Str) = true)
    (zk_sealed_datagram : PySem.W.keepIn K (.ref f_sealed_datagram) = true)
    (za_is_integer : PySem.W.nsIn K mainGlobals ("is_integer" : Str) = some (some (.ref f_is_integer)))
    (zl_is_integer : K.lookup f_is_integer = some ⟨oc_is_integer, od_is_integer, .func (PySem.W.fnOf ("is_integer" : Str) ("is_integer" : Str) (defArgs (top 6)) (defBody (top 6)) (defScope (top 6)) .none kV_is_integer doc_is_integer pm_is_integer an_is_integer cd_is_integer ct_is_integer), sl_is_integer⟩)
    (zc_is_integer : PySem.W.codeIn K cd_is_integer ("is_integer" : Str) = true)
    (zk_is_integer : PySem.W.keepIn K (.ref f_is_integer) = true)
    (za_is_below : PySem.W.nsIn K mainGlobals ("is_below" : Str) = some (some (.ref f_is_below)))
    (zl_is_below : K.lookup f_is_below = some ⟨oc_is_below, od_is_below, .func (PySem.W.fnOf ("is_below" : Str) ("is_below" : Str) (defArgs (top 7)) (defBody (top 7)) (defScope (top 7)) .none kV_is_below doc_is_below pm_is_below an_is_below cd_is_below ct_is_below), sl_is_below⟩)
    (zc_is_below : PySem.W.codeIn K cd_is_below ("is_below" : Str) = true)
    (zk_is_below : PySem.W.keepIn K (.ref f_is_below) = true)
    (za_wrong_place : PySem.W.nsIn K mainGlobals ("wrong_place" : Str) = some (some (.ref f_wrong_place)))
    (zl_wrong_place : K.lookup f_wrong_place = some ⟨oc_wrong_place, od_wrong_place, .func (PySem.W.fnOf ("wrong_place" : Str) ("wrong_place" : Str) (defArgs (top 9)) (defBody (top 9)) (defScope (top 9)) .none kV_wrong_place doc_wrong_place pm_wrong_place an_wrong_place cd_wrong_place ct_wrong_place), sl_wrong_place⟩)
    (zc_wrong_place : PySem.W.codeIn K cd_wrong_place ("wrong_place" : Str) = true)
    (zk_wrong_place : PySem.W.keepIn K (.ref f_wrong_place) = true)
    (za_is_octets : PySem.W.nsIn K mainGlobals ("is_octets" : Str) = some (some (.ref f_is_octets)))
    (zl_is_octets : K.lookup f_is_octets = some ⟨oc_is_octets, od_is_octets, .func (PySem.W.fnOf ("is_octets" : Str) ("is_octets" : Str) (defArgs (top 10)) (defBody (top 10)) (defScope (top 10)) .none kV_is_octets doc_is_octets pm_is_octets an_is_octets cd_is_octets ct_is_octets), sl_is_octets⟩)
    (zc_is_octets : PySem.W.codeIn K cd_is_octets ("is_octets" : Str) = true)
    (zk_is_octets : PySem.W.keepIn K (.ref f_is_octets) = true)
    (za_number_of : PySem.W.nsIn K mainGlobals ("number_of" : Str) = some (some (.ref f_number_of)))
    (zl_number_of : K.lookup f_number_of = some ⟨oc_number_of, od_number_of, .func (PySem.W.fnOf ("number_of" : Str) ("number_of" : Str) (defArgs (top 12)) (defBody (top 12)) (defScope (top 12)) .none kV_number_of doc_number_of pm_number_of an_number_of cd_number_of ct_number_of), sl_number_of⟩)
    (zc_number_of : PySem.W.codeIn K cd_number_of ("number_of" : Str) = true)
    (zk_number_of : PySem.W.keepIn K (.ref f_number_of) = true)
    (za_is_counter : PySem.W.nsIn K mainGlobals ("is_counter" : Str) = some (some (.ref f_is_counter)))
    (zl_is_counter : K.lookup f_is_counter = some ⟨oc_is_counter, od_is_counter, .func (PySem.W.fnOf ("is_counter" : Str) ("is_counter" : Str) (defArgs (top 22)) (defBody (top 22)) (defScope (top 22)) .none kV_is_counter doc_is_counter pm_is_counter an_is_counter cd_is_counter ct_is_counter), sl_is_counter⟩)
    (zc_is_counter : PySem.W.codeIn K cd_is_counter ("is_counter" : Str) = true)
    (zk_is_counter : PySem.W.keepIn K (.ref f_is_counter) = true)
    (za_read_datagram : PySem.W.nsIn K mainGlobals ("read_datagram" : Str) = some (some (.ref f_read_datagram)))
    (zl_read_datagram : K.lookup f_read_datagram = some ⟨oc_read_datagram, od_read_datagram, .func (PySem.W.fnOf ("read_datagram" : Str) ("read_datagram" : Str) (defArgs (top 35)) (defBody (top 35)) (defScope (top 35)) .none kV_read_datagram doc_read_datagram pm_read_datagram an_read_datagram cd_read_datagram ct_read_datagram), sl_read_datagram⟩)
    (zc_read_datagram : PySem.W.codeIn K cd_read_datagram ("read_datagram" : Str) = true)
    (zk_read_datagram : PySem.W.keepIn K (.ref f_read_datagram) = true)
    (za__law_deal : PySem.W.nsIn K mainGlobals ("_law_deal" : Str) = some (some (.ref f__law_deal)))
    (zl__law_deal : K.lookup f__law_deal = some ⟨oc__law_deal, od__law_deal, .func (PySem.W.fnOf ("_law_deal" : Str) ("_law_deal" : Str) (defArgs (top 43)) (defBody (top 43)) (defScope (top 43)) .none kV__law_deal doc__law_deal pm__law_deal an__law_deal cd__law_deal ct__law_deal), sl__law_deal⟩)
    (zc__law_deal : PySem.W.codeIn K cd__law_deal ("_law_deal" : Str) = true)
    (zk__law_deal : PySem.W.keepIn K (.ref f__law_deal) = true)
    (za__law_any : PySem.W.nsIn K mainGlobals ("_law_any" : Str) = some (some (.ref f__law_any)))
    (zl__law_any : K.lookup f__law_any = some ⟨oc__law_any, od__law_any, .func (PySem.W.fnOf ("_law_any" : Str) ("_law_any" : Str) (defArgs (top 44)) (defBody (top 44)) (defScope (top 44)) .none kV__law_any doc__law_any pm__law_any an__law_any cd__law_any ct__law_any), sl__law_any⟩)
    (zc__law_any : PySem.W.codeIn K cd__law_any ("_law_any" : Str) = true)
    (zk__law_any : PySem.W.keepIn K (.ref f__law_any) = true)
    (za__law_of : PySem.W.nsIn K mainGlobals ("_law_of" : Str) = some (some (.ref f__law_of)))
    (zl__law_of : K.lookup f__law_of = some ⟨oc__law_of, od__law_of, .func (PySem.W.fnOf ("_law_of" : Str) ("_law_of" : Str) (defArgs (top 45)) (defBody (top 45)) (defScope (top 45)) .none kV__law_of doc__law_of pm__law_of an__law_of cd__law_of ct__law_of), sl__law_of⟩)
    (zc__law_of : PySem.W.codeIn K cd__law_of ("_law_of" : Str) = true)
    (zk__law_of : PySem.W.keepIn K (.ref f__law_of) = true)
    (za__law_octets : PySem.W.nsIn K mainGlobals ("_law_octets" : Str) = some (some (.ref f__law_octets)))
    (zl__law_octets : K.lookup f__law_octets = some ⟨oc__law_octets, od__law_octets, .func (PySem.W.fnOf ("_law_octets" : Str) ("_law_octets" : Str) (defArgs (top 46)) (defBody (top 46)) (defScope (top 46)) .none kV__law_octets doc__law_octets pm__law_octets an__law_octets cd__law_octets ct__law_octets), sl__law_octets⟩)
    (zc__law_octets : PySem.W.codeIn K cd__law_octets ("_law_octets" : Str) = true)
    (zk__law_octets : PySem.W.keepIn K (.ref f__law_octets) = true)
    (za__law_low : PySem.W.nsIn K mainGlobals ("_law_low" : Str) = some (some (.ref f__law_low)))
    (zl__law_low : K.lookup f__law_low = some ⟨oc__law_low, od__law_low, .func (PySem.W.fnOf ("_law_low" : Str) ("_law_low" : Str) (defArgs (top 47)) (defBody (top 47)) (defScope (top 47)) .none kV__law_low doc__law_low pm__law_low an__law_low cd__law_low ct__law_low), sl__law_low⟩)
    (zc__law_low : PySem.W.codeIn K cd__law_low ("_law_low" : Str) = true)
    (zk__law_low : PySem.W.keepIn K (.ref f__law_low) = true)
    (za__law_value : PySem.W.nsIn K mainGlobals ("_law_value" : Str) = some (some (.ref f__law_value)))
    (zl__law_value : K.lookup f__law_value = some ⟨oc__law_value, od__law_value, .func (PySem.W.fnOf ("_law_value" : Str) ("_law_value" : Str) (defArgs (top 50)) (defBody (top 50)) (defScope (top 50)) .none kV__law_value doc__law_value pm__law_value an__law_value cd__law_value ct__law_value), sl__law_value⟩)
    (zc__law_value : PySem.W.codeIn K cd__law_value ("_law_value" : Str) = true)
    (zk__law_value : PySem.W.keepIn K (.ref f__law_value) = true)
    (za__law_number : PySem.W.nsIn K mainGlobals ("_law_number" : Str) = some (some (.ref f__law_number)))
    (zl__law_number : K.lookup f__law_number = some ⟨oc__law_number, od__law_number, .func (PySem.W.fnOf ("_law_number" : Str) ("_law_number" : Str) (defArgs (top 49)) (defBody (top 49)) (defScope (top 49)) .none kV__law_number doc__law_number pm__law_number an__law_number cd__law_number ct__law_number), sl__law_number⟩)
    (zc__law_number : PySem.W.codeIn K cd__law_number ("_law_number" : Str) = true)
    (zk__law_number : PySem.W.keepIn K (.ref f__law_number) = true)
    (za__law_is_octets : PySem.W.nsIn K mainGlobals ("_law_is_octets" : Str) = some (some (.ref f__law_is_octets)))
    (zl__law_is_octets : K.lookup f__law_is_octets = some ⟨oc__law_is_octets, od__law_is_octets, .func (PySem.W.fnOf ("_law_is_octets" : Str) ("_law_is_octets" : Str) (defArgs (top 51)) (defBody (top 51)) (defScope (top 51)) .none kV__law_is_octets doc__law_is_octets pm__law_is_octets an__law_is_octets cd__law_is_octets ct__law_is_octets), sl__law_is_octets⟩)
    (zc__law_is_octets : PySem.W.codeIn K cd__law_is_octets ("_law_is_octets" : Str) = true)
    (zk__law_is_octets : PySem.W.keepIn K (.ref f__law_is_octets) = true)
    (za__law_read : PySem.W.nsIn K mainGlobals ("_law_read" : Str) = some (some (.ref f__law_read)))
    (zl__law_read : K.lookup f__law_read = some ⟨oc__law_read, od__law_read, .func (PySem.W.fnOf ("_law_read" : Str) ("_law_read" : Str) (defArgs (top 52)) (defBody (top 52)) (defScope (top 52)) .none kV__law_read doc__law_read pm__law_read an__law_read cd__law_read ct__law_read), sl__law_read⟩)
    (zc__law_read : PySem.W.codeIn K cd__law_read ("_law_read" : Str) = true)
    (zk__law_read : PySem.W.keepIn K (.ref f__law_read) = true)
    (za__law_told : PySem.W.nsIn K mainGlobals ("_law_told" : Str) = some (some (.ref f__law_told)))
    (zl__law_told : K.lookup f__law_told = some ⟨oc__law_told, od__law_told, .func (PySem.W.fnOf ("_law_told" : Str) ("_law_told" : Str) (defArgs (top 53)) (defBody (top 53)) (defScope (top 53)) .none kV__law_told doc__law_told pm__law_told an__law_told cd__law_told ct__law_told), sl__law_told⟩)
    (zc__law_told : PySem.W.codeIn K cd__law_told ("_law_told" : Str) = true)
    (zk__law_told : PySem.W.keepIn K (.ref f__law_told) = true)
    (za_big_octets_of : PySem.W.nsIn K mainGlobals ("big_octets_of" : Str) = some (some (.ref f_big_octets_of)))
    (zl_big_octets_of : K.lookup f_big_octets_of = some ⟨oc_big_octets_of, od_big_octets_of, .func (PySem.W.fnOf ("big_octets_of" : Str) ("big_octets_of" : Str) (defArgs (top 15)) (defBody (top 15)) (defScope (top 15)) .none kV_big_octets_of doc_big_octets_of pm_big_octets_of an_big_octets_of cd_big_octets_of ct_big_octets_of), sl_big_octets_of⟩)
    (zc_big_octets_of : PySem.W.codeIn K cd_big_octets_of ("big_octets_of" : Str) = true)
    (zk_big_octets_of : PySem.W.keepIn K (.ref f_big_octets_of) = true)
    (za_stamp_octets : PySem.W.nsIn K mainGlobals ("stamp_octets" : Str) = some (some (.ref f_stamp_octets)))
    (zl_stamp_octets : K.lookup f_stamp_octets = some ⟨oc_stamp_octets, od_stamp_octets, .func (PySem.W.fnOf ("stamp_octets" : Str) ("stamp_octets" : Str) (defArgs (top 18)) (defBody (top 18)) (defScope (top 18)) .none kV_stamp_octets doc_stamp_octets pm_stamp_octets an_stamp_octets cd_stamp_octets ct_stamp_octets), sl_stamp_octets⟩)
    (zc_stamp_octets : PySem.W.codeIn K cd_stamp_octets ("stamp_octets" : Str) = true)
    (zk_stamp_octets : PySem.W.keepIn K (.ref f_stamp_octets) = true)
    (za_said_octets : PySem.W.nsIn K mainGlobals ("said_octets" : Str) = some (some (.ref f_said_octets)))
    (zl_said_octets : K.lookup f_said_octets = some ⟨oc_said_octets, od_said_octets, .func (PySem.W.fnOf ("said_octets" : Str) ("said_octets" : Str) (defArgs (top 36)) (defBody (top 36)) (defScope (top 36)) .none kV_said_octets doc_said_octets pm_said_octets an_said_octets cd_said_octets ct_said_octets), sl_said_octets⟩)
    (zc_said_octets : PySem.W.codeIn K cd_said_octets ("said_octets" : Str) = true)
    (zk_said_octets : PySem.W.keepIn K (.ref f_said_octets) = true)
    (za_first_payload : PySem.W.nsIn K mainGlobals ("first_payload" : Str) = some (some (.ref f_first_payload)))
    (zl_first_payload : K.lookup f_first_payload = some ⟨oc_first_payload, od_first_payload, .func (PySem.W.fnOf ("first_payload" : Str) ("first_payload" : Str) (defArgs (top 38)) (defBody (top 38)) (defScope (top 38)) .none kV_first_payload doc_first_payload pm_first_payload an_first_payload cd_first_payload ct_first_payload), sl_first_payload⟩)
    (zc_first_payload : PySem.W.codeIn K cd_first_payload ("first_payload" : Str) = true)
    (zk_first_payload : PySem.W.keepIn K (.ref f_first_payload) = true)
    (za_need_octets : PySem.W.nsIn K mainGlobals ("need_octets" : Str) = some (some (.ref f_need_octets)))
    (zl_need_octets : K.lookup f_need_octets = some ⟨oc_need_octets, od_need_octets, .func (PySem.W.fnOf ("need_octets" : Str) ("need_octets" : Str) (defArgs (top 11)) (defBody (top 11)) (defScope (top 11)) (.ref dT_need_octets) kV_need_octets doc_need_octets pm_need_octets an_need_octets cd_need_octets ct_need_octets), sl_need_octets⟩)
    (zc_need_octets : PySem.W.codeIn K cd_need_octets ("need_octets" : Str) = true)
    (zk_need_octets : PySem.W.keepIn K (.ref f_need_octets) = true)
    (zt_need_octets : K.lookup dT_need_octets = some ⟨.type "tuple", dd_need_octets, .seq #[.none] dn_need_octets, ds_need_octets⟩)
    (za_big_number_of : PySem.W.nsIn K mainGlobals ("big_number_of" : Str) = some (some (.ref f_big_number_of)))
    (zl_big_number_of : K.lookup f_big_number_of = some ⟨oc_big_number_of, od_big_number_of, .func (PySem.W.fnOf ("big_number_of" : Str) ("big_number_of" : Str) (defArgs (top 14)) (defBody (top 14)) (defScope (top 14)) .none kV_big_number_of doc_big_number_of pm_big_number_of an_big_number_of cd_big_number_of ct_big_number_of), sl_big_number_of⟩)
    (zc_big_number_of : PySem.W.codeIn K cd_big_number_of ("big_number_of" : Str) = true)
    (zk_big_number_of : PySem.W.keepIn K (.ref f_big_number_of) = true)
    (za_read_stamp : PySem.W.nsIn K mainGlobals ("read_stamp" : Str) = some (some (.ref f_read_stamp)))
    (zl_read_stamp : K.lookup f_read_stamp = some ⟨oc_read_stamp, od_read_stamp, .func (PySem.W.fnOf ("read_stamp" : Str) ("read_stamp" : Str) (defArgs (top 19)) (defBody (top 19)) (defScope (top 19)) .none kV_read_stamp doc_read_stamp pm_read_stamp an_read_stamp cd_read_stamp ct_read_stamp), sl_read_stamp⟩)
    (zc_read_stamp : PySem.W.codeIn K cd_read_stamp ("read_stamp" : Str) = true)
    (zk_read_stamp : PySem.W.keepIn K (.ref f_read_stamp) = true)
    (za_read_said : PySem.W.nsIn K mainGlobals ("read_said" : Str) = some (some (.ref f_read_said)))
    (zl_read_said : K.lookup f_read_said = some ⟨oc_read_said, od_read_said, .func (PySem.W.fnOf ("read_said" : Str) ("read_said" : Str) (defArgs (top 37)) (defBody (top 37)) (defScope (top 37)) .none kV_read_said doc_read_said pm_read_said an_read_said cd_read_said ct_read_said), sl_read_said⟩)
    (zc_read_said : PySem.W.codeIn K cd_read_said ("read_said" : Str) = true)
    (zk_read_said : PySem.W.keepIn K (.ref f_read_said) = true)
    (za_read_first_payload : PySem.W.nsIn K mainGlobals ("read_first_payload" : Str) = some (some (.ref f_read_first_payload)))
    (zl_read_first_payload : K.lookup f_read_first_payload = some ⟨oc_read_first_payload, od_read_first_payload, .func (PySem.W.fnOf ("read_first_payload" : Str) ("read_first_payload" : Str) (defArgs (top 39)) (defBody (top 39)) (defScope (top 39)) .none kV_read_first_payload doc_read_first_payload pm_read_first_payload an_read_first_payload cd_read_first_payload ct_read_first_payload), sl_read_first_payload⟩)
    (zc_read_first_payload : PySem.W.codeIn K cd_read_first_payload ("read_first_payload" : Str) = true)
    (zk_read_first_payload : PySem.W.keepIn K (.ref f_read_first_payload) = true)
    (za_answer_payload : PySem.W.nsIn K mainGlobals ("answer_payload" : Str) = some (some (.ref f_answer_payload)))
    (zl_answer_payload : K.lookup f_answer_payload = some ⟨oc_answer_payload, od_answer_payload, .func (PySem.W.fnOf ("answer_payload" : Str) ("answer_payload" : Str) (defArgs (top 40)) (defBody (top 40)) (defScope (top 40)) .none kV_answer_payload doc_answer_payload pm_answer_payload an_answer_payload cd_answer_payload ct_answer_payload), sl_answer_payload⟩)
    (zc_answer_payload : PySem.W.codeIn K cd_answer_payload ("answer_payload" : Str) = true)
    (zk_answer_payload : PySem.W.keepIn K (.ref f_answer_payload) = true)
    (za_read_answer_payload : PySem.W.nsIn K mainGlobals ("read_answer_payload" : Str) = some (some (.ref f_read_answer_payload)))
    (zl_read_answer_payload : K.lookup f_read_answer_payload = some ⟨oc_read_answer_payload, od_read_answer_payload, .func (PySem.W.fnOf ("read_answer_payload" : Str) ("read_answer_payload" : Str) (defArgs (top 41)) (defBody (top 41)) (defScope (top 41)) .none kV_read_answer_payload doc_read_answer_payload pm_read_answer_payload an_read_answer_payload cd_read_answer_payload ct_read_answer_payload), sl_read_answer_payload⟩)
    (zc_read_answer_payload : PySem.W.codeIn K cd_read_answer_payload ("read_answer_payload" : Str) = true)
    (zk_read_answer_payload : PySem.W.keepIn K (.ref f_read_answer_payload) = true)
    (za__law_high : PySem.W.nsIn K mainGlobals ("_law_high" : Str) = some (some (.ref f__law_high)))
    (zl__law_high : K.lookup f__law_high = some ⟨oc__law_high, od__law_high, .func (PySem.W.fnOf ("_law_high" : Str) ("_law_high" : Str) (defArgs (top 48)) (defBody (top 48)) (defScope (top 48)) .none kV__law_high doc__law_high pm__law_high an__law_high cd__law_high ct__law_high), sl__law_high⟩)
    (zc__law_high : PySem.W.codeIn K cd__law_high ("_law_high" : Str) = true)
    (zk__law_high : PySem.W.keepIn K (.ref f__law_high) = true)
    (za__law_name : PySem.W.nsIn K mainGlobals ("_law_name" : Str) = some (some (.ref f__law_name)))
    (zl__law_name : K.lookup f__law_name = some ⟨oc__law_name, od__law_name, .func (PySem.W.fnOf ("_law_name" : Str) ("_law_name" : Str) (defArgs (top 54)) (defBody (top 54)) (defScope (top 54)) .none kV__law_name doc__law_name pm__law_name an__law_name cd__law_name ct__law_name), sl__law_name⟩)
    (zc__law_name : PySem.W.codeIn K cd__law_name ("_law_name" : Str) = true)
    (zk__law_name : PySem.W.keepIn K (.ref f__law_name) = true)
    (za__law_said : PySem.W.nsIn K mainGlobals ("_law_said" : Str) = some (some (.ref f__law_said)))
    (zl__law_said : K.lookup f__law_said = some ⟨oc__law_said, od__law_said, .func (PySem.W.fnOf ("_law_said" : Str) ("_law_said" : Str) (defArgs (top 55)) (defBody (top 55)) (defScope (top 55)) .none kV__law_said doc__law_said pm__law_said an__law_said cd__law_said ct__law_said), sl__law_said⟩)
    (zc__law_said : PySem.W.codeIn K cd__law_said ("_law_said" : Str) = true)
    (zk__law_said : PySem.W.keepIn K (.ref f__law_said) = true)
    (za__law_told_name : PySem.W.nsIn K mainGlobals ("_law_told_name" : Str) = some (some (.ref f__law_told_name)))
    (zl__law_told_name : K.lookup f__law_told_name = some ⟨oc__law_told_name, od__law_told_name, .func (PySem.W.fnOf ("_law_told_name" : Str) ("_law_told_name" : Str) (defArgs (top 56)) (defBody (top 56)) (defScope (top 56)) .none kV__law_told_name doc__law_told_name pm__law_told_name an__law_told_name cd__law_told_name ct__law_told_name), sl__law_told_name⟩)
    (zc__law_told_name : PySem.W.codeIn K cd__law_told_name ("_law_told_name" : Str) = true)
    (zk__law_told_name : PySem.W.keepIn K (.ref f__law_told_name) = true)
    (za__law_two : PySem.W.nsIn K mainGlobals ("_law_two" : Str) = some (some (.ref f__law_two)))
    (zl__law_two : K.lookup f__law_two = some ⟨oc__law_two, od__law_two, .func (PySem.W.fnOf ("_law_two" : Str) ("_law_two" : Str) (defArgs (top 58)) (defBody (top 58)) (defScope (top 58)) .none kV__law_two doc__law_two pm__law_two an__law_two cd__law_two ct__law_two), sl__law_two⟩)
    (zc__law_two : PySem.W.codeIn K cd__law_two ("_law_two" : Str) = true)
    (zk__law_two : PySem.W.keepIn K (.ref f__law_two) = true)
    (za__law_payloads : PySem.W.nsIn K mainGlobals ("_law_payloads" : Str) = some (some (.ref f__law_payloads)))
    (zl__law_payloads : K.lookup f__law_payloads = some ⟨oc__law_payloads, od__law_payloads, .func (PySem.W.fnOf ("_law_payloads" : Str) ("_law_payloads" : Str) (defArgs (top 57)) (defBody (top 57)) (defScope (top 57)) .none kV__law_payloads doc__law_payloads pm__law_payloads an__law_payloads cd__law_payloads ct__law_payloads), sl__law_payloads⟩)
    (zc__law_payloads : PySem.W.codeIn K cd__law_payloads ("_law_payloads" : Str) = true)
    (zk__law_payloads : PySem.W.keepIn K (.ref f__law_payloads) = true)
    (za_law : PySem.W.nsIn K mainGlobals ("law" : Str) = some (some (.ref f_law)))
    (zl_law : K.lookup f_law = some ⟨oc_law, od_law, .func (PySem.W.fnOf ("law" : Str) ("law" : Str) (defArgs (top 59)) (defBody (top 59)) (defScope (top 59)) .none kV_law doc_law pm_law an_law cd_law ct_law), sl_law⟩)
    (zc_law : PySem.W.codeIn K cd_law ("law" : Str) = true)
    (zk_law : PySem.W.keepIn K (.ref f_law) = true)
    (zsup : PySem.W.nsIn K mainGlobals "super" = some none)
    (zno3 : PySem.W.nsIn K PySem.cStatics "thirdparty.any" = some none)
    (zx_InvalidLetter : PySem.W.nsIn K mainGlobals ("InvalidLetter" : Str) = some (some (.ref c_InvalidLetter)))
    (zx_InvalidOctets : PySem.W.nsIn K mainGlobals ("InvalidOctets" : Str) = some (some (.ref c_InvalidOctets)))
    (zx_InvalidSize : PySem.W.nsIn K mainGlobals ("InvalidSize" : Str) = some (some (.ref c_InvalidSize)))
    (zx_TunnelError : PySem.W.nsIn K mainGlobals ("TunnelError" : Str) = some (some (.ref c_TunnelError)))
    (xk_InvalidLetter : PySem.W.keepIn K (.ref c_InvalidLetter) = true)
    (xc_InvalidLetter : K.lookup c_InvalidLetter = some (excClassObj nm_InvalidLetter q_InvalidLetter c_InvalidLetter N_InvalidLetter bs_InvalidLetter [.ref t_InvalidLetter, .type "Exception", .type "BaseException", .type "object"] true sn_InvalidLetter sub_InvalidLetter ab_InvalidLetter col_InvalidLetter dd_InvalidLetter k0_InvalidLetter k1_InvalidLetter k2_InvalidLetter k3_InvalidLetter k5_InvalidLetter "Exception.__new__"))
    (xs_InvalidLetter : PySem.W.findIn K (.ref c_InvalidLetter) "__setattr__" = some (some (.builtin "object.__setattr__")))
    (xn_InvalidLetter : PySem.W.findIn K (.ref c_InvalidLetter) ("at" : Str) = some none)
    (xi_InvalidLetter : PySem.W.findIn K (.ref c_InvalidLetter) "__init__" = some (some (.ref i_InvalidLetter)))
    (xt_InvalidLetter : PySem.W.typeIn K (.ref i_InvalidLetter) = some (.type "function"))
    (xl_InvalidLetter : K.lookup t_InvalidLetter = some ⟨bcv_InvalidLetter, bdd_InvalidLetter, .cls bcd_InvalidLetter, bsl_InvalidLetter⟩)
    (xm_InvalidLetter : bcd_InvalidLetter.mro = [.ref t_InvalidLetter, .type "Exception", .type "BaseException", .type "object"])
    (xa_InvalidLetter : PySem.W.findIn K (.ref t_InvalidLetter) "__init__" = some (some (.builtin "Exception.__init__")))
    (xe_InvalidLetter : PySem.W.subIn K (.ref c_InvalidLetter) (.type "BaseException") = some true)
    (xy_InvalidLetter : PySem.W.typeIn K (.ref c_InvalidLetter) = some (.type "type"))
    (xf_InvalidLetter : K.lookup i_InvalidLetter = some ⟨xoc_InvalidLetter, xod_InvalidLetter, .func (PySem.W.fnX "__init__" xq_InvalidLetter (xA ("at" : Str) ⟨11, 17, 11, 21⟩ ⟨11, 23, 11, 25⟩) (xB ("at" : Str) ⟨12, 8, 12, 13⟩ ⟨12, 8, 12, 15⟩ ⟨12, 8, 12, 24⟩ ⟨12, 25, 12, 27⟩ ⟨12, 8, 12, 28⟩ ⟨12, 8, 12, 28⟩ ⟨13, 8, 13, 12⟩ ⟨13, 8, 13, 15⟩ ⟨13, 18, 13, 20⟩ ⟨13, 8, 13, 20⟩) (xS ("at" : Str)) [("__class__", k_InvalidLetter)] .none .none xdoc_InvalidLetter xpm_InvalidLetter xan_InvalidLetter (.ref xcd_InvalidLetter) xct_InvalidLetter), xsl_InvalidLetter⟩)
    (xd_InvalidLetter : PySem.W.codeIn K (.ref xcd_InvalidLetter) xq_InvalidLetter = true)
    (xv_InvalidLetter : K.lookup xcd_InvalidLetter = some ⟨xcl_InvalidLetter, xcdd_InvalidLetter, .fields xvs_InvalidLetter, xcs_InvalidLetter⟩)
    (xw_InvalidLetter : xvs_InvalidLetter[2]? = some (.str xfile_InvalidLetter xtf_InvalidLetter))
    (xg_InvalidLetter : ((PySem.Challenge.pw_putinonce_k78_datagrams_and_payloads.main.file : Str) == xfile_InvalidLetter) = true)
    (xh_InvalidLetter : K.lookup k_InvalidLetter = some ⟨ycl_InvalidLetter, ycd_InvalidLetter, .cell (some (.ref c_InvalidLetter)), ysl_InvalidLetter⟩)
    (xk_InvalidOctets : PySem.W.keepIn K (.ref c_InvalidOctets) = true)
    (xc_InvalidOctets : K.lookup c_InvalidOctets = some (excClassObj nm_InvalidOctets q_InvalidOctets c_InvalidOctets N_InvalidOctets bs_InvalidOctets [.ref t_InvalidOctets, .type "Exception", .type "BaseException", .type "object"] true sn_InvalidOctets sub_InvalidOctets ab_InvalidOctets col_InvalidOctets dd_InvalidOctets k0_InvalidOctets k1_InvalidOctets k2_InvalidOctets k3_InvalidOctets k5_InvalidOctets "Exception.__new__"))
    (xs_InvalidOctets : PySem.W.findIn K (.ref c_InvalidOctets) "__setattr__" = some (some (.builtin "object.__setattr__")))
    (xn_InvalidOctets : PySem.W.findIn K (.ref c_InvalidOctets) ("at" : Str) = some none)
    (xi_InvalidOctets : PySem.W.findIn K (.ref c_InvalidOctets) "__init__" = some (some (.ref i_InvalidOctets)))
    (xt_InvalidOctets : PySem.W.typeIn K (.ref i_InvalidOctets) = some (.type "function"))
    (xl_InvalidOctets : K.lookup t_InvalidOctets = some ⟨bcv_InvalidOctets, bdd_InvalidOctets, .cls bcd_InvalidOctets, bsl_InvalidOctets⟩)
    (xm_InvalidOctets : bcd_InvalidOctets.mro = [.ref t_InvalidOctets, .type "Exception", .type "BaseException", .type "object"])
    (xa_InvalidOctets : PySem.W.findIn K (.ref t_InvalidOctets) "__init__" = some (some (.builtin "Exception.__init__")))
    (xe_InvalidOctets : PySem.W.subIn K (.ref c_InvalidOctets) (.type "BaseException") = some true)
    (xy_InvalidOctets : PySem.W.typeIn K (.ref c_InvalidOctets) = some (.type "type"))
    (xf_InvalidOctets : K.lookup i_InvalidOctets = some ⟨xoc_InvalidOctets, xod_InvalidOctets, .func (PySem.W.fnX "__init__" xq_InvalidOctets (xA ("at" : Str) ⟨6, 17, 6, 21⟩ ⟨6, 23, 6, 25⟩) (xB ("at" : Str) ⟨7, 8, 7, 13⟩ ⟨7, 8, 7, 15⟩ ⟨7, 8, 7, 24⟩ ⟨7, 25, 7, 27⟩ ⟨7, 8, 7, 28⟩ ⟨7, 8, 7, 28⟩ ⟨8, 8, 8, 12⟩ ⟨8, 8, 8, 15⟩ ⟨8, 18, 8, 20⟩ ⟨8, 8, 8, 20⟩) (xS ("at" : Str)) [("__class__", k_InvalidOctets)] .none .none xdoc_InvalidOctets xpm_InvalidOctets xan_InvalidOctets (.ref xcd_InvalidOctets) xct_InvalidOctets), xsl_InvalidOctets⟩)
    (xd_InvalidOctets : PySem.W.codeIn K (.ref xcd_InvalidOctets) xq_InvalidOctets = true)
    (xv_InvalidOctets : K.lookup xcd_InvalidOctets = some ⟨xcl_InvalidOctets, xcdd_InvalidOctets, .fields xvs_InvalidOctets, xcs_InvalidOctets⟩)
    (xw_InvalidOctets : xvs_InvalidOctets[2]? = some (.str xfile_InvalidOctets xtf_InvalidOctets))
    (xg_InvalidOctets : ((PySem.Challenge.pw_putinonce_k78_datagrams_and_payloads.main.file : Str) == xfile_InvalidOctets) = true)
    (xh_InvalidOctets : K.lookup k_InvalidOctets = some ⟨ycl_InvalidOctets, ycd_InvalidOctets, .cell (some (.ref c_InvalidOctets)), ysl_InvalidOctets⟩)
    (xk_InvalidSize : PySem.W.keepIn K (.ref c_InvalidSize) = true)
    (xc_InvalidSize : K.lookup c_InvalidSize = some (excClassObj nm_InvalidSize q_InvalidSize c_InvalidSize N_InvalidSize bs_InvalidSize [.ref t_InvalidSize, .type "Exception", .type "BaseException", .type "object"] true sn_InvalidSize sub_InvalidSize ab_InvalidSize col_InvalidSize dd_InvalidSize k0_InvalidSize k1_InvalidSize k2_InvalidSize k3_InvalidSize k5_InvalidSize "Exception.__new__"))
    (xs_InvalidSize : PySem.W.findIn K (.ref c_InvalidSize) "__setattr__" = some (some (.builtin "object.__setattr__")))
    (xn_InvalidSize : PySem.W.findIn K (.ref c_InvalidSize) ("word" : Str) = some none)
    (xi_InvalidSize : PySem.W.findIn K (.ref c_InvalidSize) "__init__" = some (some (.ref i_InvalidSize)))
    (xt_InvalidSize : PySem.W.typeIn K (.ref i_InvalidSize) = some (.type "function"))
    (xl_InvalidSize : K.lookup t_InvalidSize = some ⟨bcv_InvalidSize, bdd_InvalidSize, .cls bcd_InvalidSize, bsl_InvalidSize⟩)
    (xm_InvalidSize : bcd_InvalidSize.mro = [.ref t_InvalidSize, .type "Exception", .type "BaseException", .type "object"])
    (xa_InvalidSize : PySem.W.findIn K (.ref t_InvalidSize) "__init__" = some (some (.builtin "Exception.__init__")))
    (xe_InvalidSize : PySem.W.subIn K (.ref c_InvalidSize) (.type "BaseException") = some true)
    (xy_InvalidSize : PySem.W.typeIn K (.ref c_InvalidSize) = some (.type "type"))
    (xf_InvalidSize : K.lookup i_InvalidSize = some ⟨xoc_InvalidSize, xod_InvalidSize, .func (PySem.W.fnX "__init__" xq_InvalidSize (xA ("word" : Str) ⟨16, 17, 16, 21⟩ ⟨16, 23, 16, 27⟩) (xB ("word" : Str) ⟨17, 8, 17, 13⟩ ⟨17, 8, 17, 15⟩ ⟨17, 8, 17, 24⟩ ⟨17, 25, 17, 29⟩ ⟨17, 8, 17, 30⟩ ⟨17, 8, 17, 30⟩ ⟨18, 8, 18, 12⟩ ⟨18, 8, 18, 17⟩ ⟨18, 20, 18, 24⟩ ⟨18, 8, 18, 24⟩) (xS ("word" : Str)) [("__class__", k_InvalidSize)] .none .none xdoc_InvalidSize xpm_InvalidSize xan_InvalidSize (.ref xcd_InvalidSize) xct_InvalidSize), xsl_InvalidSize⟩)
    (xd_InvalidSize : PySem.W.codeIn K (.ref xcd_InvalidSize) xq_InvalidSize = true)
    (xv_InvalidSize : K.lookup xcd_InvalidSize = some ⟨xcl_InvalidSize, xcdd_InvalidSize, .fields xvs_InvalidSize, xcs_InvalidSize⟩)
    (xw_InvalidSize : xvs_InvalidSize[2]? = some (.str xfile_InvalidSize xtf_InvalidSize))
    (xg_InvalidSize : ((PySem.Challenge.pw_putinonce_k78_datagrams_and_payloads.main.file : Str) == xfile_InvalidSize) = true)
    (xh_InvalidSize : K.lookup k_InvalidSize = some ⟨ycl_InvalidSize, ycd_InvalidSize, .cell (some (.ref c_InvalidSize)), ysl_InvalidSize⟩)
    (vs_InvalidLetter : PySem.W.subIn K (.ref c_InvalidLetter) (.type "BaseException") = some true)
    (vc_InvalidLetter : PySem.W.isClsIn K c_InvalidLetter = true)
    (vt_InvalidLetter : PySem.W.typeIn K (.ref c_InvalidLetter) = some (.type "type"))
    (vs_InvalidOctets : PySem.W.subIn K (.ref c_InvalidOctets) (.type "BaseException") = some true)
    (vc_InvalidOctets : PySem.W.isClsIn K c_InvalidOctets = true)
    (vt_InvalidOctets : PySem.W.typeIn K (.ref c_InvalidOctets) = some (.type "type"))
    (vs_TunnelError : PySem.W.subIn K (.ref c_TunnelError) (.type "BaseException") = some true)
    (vc_TunnelError : PySem.W.isClsIn K c_TunnelError = true)
    (vt_TunnelError : PySem.W.typeIn K (.ref c_TunnelError) = some (.type "type"))
    (hg_InvalidLetter : PySem.W.findIn K (.ref c_InvalidLetter) "__getattribute__" = some (some (.builtin "BaseException.__getattribute__")))
    (hk_InvalidLetter : PySem.W.findIn K (.ref c_InvalidLetter) "__getattr__" = some none)
    (hd_InvalidLetter : PySem.W.hasDictIn K c_InvalidLetter = true)
    (ha_InvalidLetter : PySem.W.findIn K (.ref c_InvalidLetter) "__class__" = some (some (.builtin "object.__class__")))
    (hm_InvalidLetter : PySem.W.mroIn K c_InvalidLetter (.type "object") = some true)
    (hn_ : PySem.W.specialIn K (.builtin "object.__class__") "__get__" = some (some (.builtin "getset_descriptor.__get__")))
    (ht_ : PySem.W.takesIn K (.builtin "object.__class__") = some true)
    (ze_0 : PySem.W.subIn K (.ref c_InvalidLetter) (.ref c_InvalidLetter) = some true)
    (ze_1 : PySem.W.subIn K (.ref c_InvalidLetter) (.ref c_InvalidOctets) = some false)
    (ze_2 : PySem.W.subIn K (.ref c_InvalidOctets) (.ref c_InvalidLetter) = some false)
    (ze_3 : PySem.W.subIn K (.ref c_InvalidOctets) (.ref c_InvalidOctets) = some true)
    (ze_4 : PySem.W.subIn K (.ref c_InvalidSize) (.ref c_InvalidLetter) = some false)
    (ze_5 : PySem.W.subIn K (.ref c_InvalidSize) (.ref c_InvalidOctets) = some false)
    (zq_0 : PySem.W.findIn K (.ref c_InvalidLetter) ("at" : Str) = some none)
    (zo_0 : PySem.W.subIn K (.ref c_InvalidLetter) (.ref c_TunnelError) = some true)
    : Txt PySem.Challenge.pw_putinonce_k78_datagrams_and_payloads K mg where
  n_abs := PySem.W.mg_none_of X G zn_abs
  n_bool := PySem.W.mg_none_of X G zn_bool
  n_enumerate := PySem.W.mg_none_of X G zn_enumerate
  n_int := PySem.W.mg_none_of X G zn_int
  n_isinstance := PySem.W.mg_none_of X G zn_isinstance
  n_len := PySem.W.mg_none_of X G zn_len
  n_list := PySem.W.mg_none_of X G zn_list
  n_range := PySem.W.mg_none_of X G zn_range
  n_repr := PySem.W.mg_none_of X G zn_repr
  n_tuple := PySem.W.mg_none_of X G zn_tuple
  g_ANSWER := ⟨_, PySem.W.mg_of X G zg_ANSWER⟩
  g_ANSWER_PAYLOAD := ⟨_, PySem.W.mg_of X G zg_ANSWER_PAYLOAD⟩
  g_COUNTERS := ⟨_, PySem.W.mg_of X G zg_COUNTERS⟩
  g_FIRST := ⟨_, PySem.W.mg_of X G zg_FIRST⟩
  g_FIRST_PAYLOAD := ⟨_, PySem.W.mg_of X G zg_FIRST_PAYLOAD⟩
  g_HEADS := ⟨_, [.int 0, .int 1, .int 5, .int 13], PySem.W.mg_of X G zg_HEADS, ⟨_, _, _, zh_HEADS, rfl, rfl, by rw [sizeLine_eq]; simp, (.cons ⟨_, rfl⟩ (.cons ⟨_, rfl⟩ (.cons ⟨_, rfl⟩ (.cons ⟨_, rfl⟩ .nil))))⟩, fun ρ H => by simp [RVs, RV]⟩
  g_LABEL := ⟨_, PySem.W.mg_of X G zg_LABEL⟩
  g_NO_NAME := ⟨_, [.int 0, .int 0, .int 0, .int 0, .int 0, .int 0, .int 0, .int 0, .int 2], PySem.W.mg_of X G zg_NO_NAME, ⟨_, _, _, zh_NO_NAME, rfl, rfl, by rw [sizeLine_eq]; simp, (.cons ⟨_, rfl⟩ (.cons ⟨_, rfl⟩ (.cons ⟨_, rfl⟩ (.cons ⟨_, rfl⟩ (.cons ⟨_, rfl⟩ (.cons ⟨_, rfl⟩ (.cons ⟨_, rfl⟩ (.cons ⟨_, rfl⟩ (.cons ⟨_, rfl⟩ .nil)))))))))⟩, fun ρ H => by simp [RVs, RV]⟩
  g_SEALED := ⟨_, PySem.W.mg_of X G zg_SEALED⟩
  d_first_datagram := ⟨f_first_datagram, _, _, _, _, _, _, _, _, _, _, PySem.W.mg_of X G za_first_datagram, zl_first_datagram, zc_first_datagram, zk_first_datagram, .inl ⟨rfl, rfl⟩⟩
  d_octets_of := ⟨f_octets_of, _, _, _, _, _, _, _, _, _, _, PySem.W.mg_of X G za_octets_of, zl_octets_of, zc_octets_of, zk_octets_of, .inl ⟨rfl, rfl⟩⟩
  d_answer_datagram := ⟨f_answer_datagram, _, _, _, _, _, _, _, _, _, _, PySem.W.mg_of X G za_answer_datagram, zl_answer_datagram, zc_answer_datagram, zk_answer_datagram, .inl ⟨rfl, rfl⟩⟩
  d_sealed_head := ⟨f_sealed_head, _, _, _, _, _, _, _, _, _, _, PySem.W.mg_of X G za_sealed_head, zl_sealed_head, zc_sealed_head, zk_sealed_head, .inl ⟨rfl, rfl⟩⟩
  d_sealed_datagram := ⟨f_sealed_datagram, _, _, _, _, _, _, _, _, _, _, PySem.W.mg_of X G za_sealed_datagram, zl_sealed_datagram, zc_sealed_datagram, zk_sealed_datagram, .inl ⟨rfl, rfl⟩⟩
  d_is_integer := ⟨f_is_integer, _, _, _, _, _, _, _, _, _, _, PySem.W.mg_of X G za_is_integer, zl_is_integer, zc_is_integer, zk_is_integer, .inl ⟨rfl, rfl⟩⟩
  d_is_below := ⟨f_is_below, _, _, _, _, _, _, _, _, _, _, PySem.W.mg_of X G za_is_below, zl_is_below, zc_is_below, zk_is_below, .inl ⟨rfl, rfl⟩⟩
  d_wrong_place := ⟨f_wrong_place, _, _, _, _, _, _, _, _, _, _, PySem.W.mg_of X G za_wrong_place, zl_wrong_place, zc_wrong_place, zk_wrong_place, .inl ⟨rfl, rfl⟩⟩
  d_is_octets := ⟨f_is_octets, _, _, _, _, _, _, _, _, _, _, PySem.W.mg_of X G za_is_octets, zl_is_octets, zc_is_octets, zk_is_octets, .inl ⟨rfl, rfl⟩⟩
  d_number_of := ⟨f_number_of, _, _, _, _, _, _, _, _, _, _, PySem.W.mg_of X G za_number_of, zl_number_of, zc_number_of, zk_number_of, .inl ⟨rfl, rfl⟩⟩
  d_is_counter := ⟨f_is_counter, _, _, _, _, _, _, _, _, _, _, PySem.W.mg_of X G za_is_counter, zl_is_counter, zc_is_counter, zk_is_counter, .inl ⟨rfl, rfl⟩⟩
  d_read_datagram := ⟨f_read_datagram, _, _, _, _, _, _, _, _, _, _, PySem.W.mg_of X G za_read_datagram, zl_read_datagram, zc_read_datagram, zk_read_datagram, .inl ⟨rfl, rfl⟩⟩
  d__law_deal := ⟨f__law_deal, _, _, _, _, _, _, _, _, _, _, PySem.W.mg_of X G za__law_deal, zl__law_deal, zc__law_deal, zk__law_deal, .inl ⟨rfl, rfl⟩⟩
  d__law_any := ⟨f__law_any, _, _, _, _, _, _, _, _, _, _, PySem.W.mg_of X G za__law_any, zl__law_any, zc__law_any, zk__law_any, .inl ⟨rfl, rfl⟩⟩
  d__law_of := ⟨f__law_of, _, _, _, _, _, _, _, _, _, _, PySem.W.mg_of X G za__law_of, zl__law_of, zc__law_of, zk__law_of, .inl ⟨rfl, rfl⟩⟩
  d__law_octets := ⟨f__law_octets, _, _, _, _, _, _, _, _, _, _, PySem.W.mg_of X G za__law_octets, zl__law_octets, zc__law_octets, zk__law_octets, .inl ⟨rfl, rfl⟩⟩
  d__law_low := ⟨f__law_low, _, _, _, _, _, _, _, _, _, _, PySem.W.mg_of X G za__law_low, zl__law_low, zc__law_low, zk__law_low, .inl ⟨rfl, rfl⟩⟩
  d__law_value := ⟨f__law_value, _, _, _, _, _, _, _, _, _, _, PySem.W.mg_of X G za__law_value, zl__law_value, zc__law_value, zk__law_value, .inl ⟨rfl, rfl⟩⟩
  d__law_number := ⟨f__law_number, _, _, _, _, _, _, _, _, _, _, PySem.W.mg_of X G za__law_number, zl__law_number, zc__law_number, zk__law_number, .inl ⟨rfl, rfl⟩⟩
  d__law_is_octets := ⟨f__law_is_octets, _, _, _, _, _, _, _, _, _, _, PySem.W.mg_of X G za__law_is_octets, zl__law_is_octets, zc__law_is_octets, zk__law_is_octets, .inl ⟨rfl, rfl⟩⟩
  d__law_read := ⟨f__law_read, _, _, _, _, _, _, _, _, _, _, PySem.W.mg_of X G za__law_read, zl__law_read, zc__law_read, zk__law_read, .inl ⟨rfl, rfl⟩⟩
  d__law_told := ⟨f__law_told, _, _, _, _, _, _, _, _, _, _, PySem.W.mg_of X G za__law_told, zl__law_told, zc__law_told, zk__law_told, .inl ⟨rfl, rfl⟩⟩
  d_big_octets_of := ⟨f_big_octets_of, _, _, _, _, _, _, _, _, _, _, PySem.W.mg_of X G za_big_octets_of, zl_big_octets_of, zc_big_octets_of, zk_big_octets_of, .inl ⟨rfl, rfl⟩⟩
  d_stamp_octets := ⟨f_stamp_octets, _, _, _, _, _, _, _, _, _, _, PySem.W.mg_of X G za_stamp_octets, zl_stamp_octets, zc_stamp_octets, zk_stamp_octets, .inl ⟨rfl, rfl⟩⟩
  d_said_octets := ⟨f_said_octets, _, _, _, _, _, _, _, _, _, _, PySem.W.mg_of X G za_said_octets, zl_said_octets, zc_said_octets, zk_said_octets, .inl ⟨rfl, rfl⟩⟩
  d_first_payload := ⟨f_first_payload, _, _, _, _, _, _, _, _, _, _, PySem.W.mg_of X G za_first_payload, zl_first_payload, zc_first_payload, zk_first_payload, .inl ⟨rfl, rfl⟩⟩
  d_need_octets := ⟨f_need_octets, _, _, _, _, _, _, _, _, _, _, PySem.W.mg_of X G za_need_octets, zl_need_octets, zc_need_octets, zk_need_octets, .inr ⟨by simp, dT_need_octets, _, [.none], dn_need_octets, rfl, zt_need_octets, rfl, (.cons rfl .nil)⟩⟩
  d_big_number_of := ⟨f_big_number_of, _, _, _, _, _, _, _, _, _, _, PySem.W.mg_of X G za_big_number_of, zl_big_number_of, zc_big_number_of, zk_big_number_of, .inl ⟨rfl, rfl⟩⟩
  d_read_stamp := ⟨f_read_stamp, _, _, _, _, _, _, _, _, _, _, PySem.W.mg_of X G za_read_stamp, zl_read_stamp, zc_read_stamp, zk_read_stamp, .inl ⟨rfl, rfl⟩⟩
  d_read_said := ⟨f_read_said, _, _, _, _, _, _, _, _, _, _, PySem.W.mg_of X G za_read_said, zl_read_said, zc_read_said, zk_read_said, .inl ⟨rfl, rfl⟩⟩
  d_read_first_payload := ⟨f_read_first_payload, _, _, _, _, _, _, _, _, _, _, PySem.W.mg_of X G za_read_first_payload, zl_read_first_payload, zc_read_first_payload, zk_read_first_payload, .inl ⟨rfl, rfl⟩⟩
  d_answer_payload := ⟨f_answer_payload, _, _, _, _, _, _, _, _, _, _, PySem.W.mg_of X G za_answer_payload, zl_answer_payload, zc_answer_payload, zk_answer_payload, .inl ⟨rfl, rfl⟩⟩
  d_read_answer_payload := ⟨f_read_answer_payload, _, _, _, _, _, _, _, _, _, _, PySem.W.mg_of X G za_read_answer_payload, zl_read_answer_payload, zc_read_answer_payload, zk_read_answer_payload, .inl ⟨rfl, rfl⟩⟩
  d__law_high := ⟨f__law_high, _, _, _, _, _, _, _, _, _, _, PySem.W.mg_of X G za__law_high, zl__law_high, zc__law_high, zk__law_high, .inl ⟨rfl, rfl⟩⟩
  d__law_name := ⟨f__law_name, _, _, _, _, _, _, _, _, _, _, PySem.W.mg_of X G za__law_name, zl__law_name, zc__law_name, zk__law_name, .inl ⟨rfl, rfl⟩⟩
  d__law_said := ⟨f__law_said, _, _, _, _, _, _, _, _, _, _, PySem.W.mg_of X G za__law_said, zl__law_said, zc__law_said, zk__law_said, .inl ⟨rfl, rfl⟩⟩
  d__law_told_name := ⟨f__law_told_name, _, _, _, _, _, _, _, _, _, _, PySem.W.mg_of X G za__law_told_name, zl__law_told_name, zc__law_told_name, zk__law_told_name, .inl ⟨rfl, rfl⟩⟩
  d__law_two := ⟨f__law_two, _, _, _, _, _, _, _, _, _, _, PySem.W.mg_of X G za__law_two, zl__law_two, zc__law_two, zk__law_two, .inl ⟨rfl, rfl⟩⟩
  d__law_payloads := ⟨f__law_payloads, _, _, _, _, _, _, _, _, _, _, PySem.W.mg_of X G za__law_payloads, zl__law_payloads, zc__law_payloads, zk__law_payloads, .inl ⟨rfl, rfl⟩⟩
  d_law := ⟨f_law, _, _, _, _, _, _, _, _, _, _, PySem.W.mg_of X G za_law, zl_law, zc_law, zk_law, .inl ⟨rfl, rfl⟩⟩
  x_InvalidLetter := ⟨c_InvalidLetter, t_InvalidLetter, i_InvalidLetter, k_InvalidLetter, { gC := PySem.W.mg_of X G zx_InvalidLetter, kC := xk_InvalidLetter, cls := ⟨_, _, _, _, _, _, _, _, _, _, _, _, _, _, xc_InvalidLetter⟩, sa := xs_InvalidLetter, noN := xn_InvalidLetter, iC := xi_InvalidLetter, tF := xt_InvalidLetter, sI := along_of xl_InvalidLetter xm_InvalidLetter xa_InvalidLetter, no3 := zno3, exC := xe_InvalidLetter, tyC := xy_InvalidLetter, fn := ⟨_, _, _, _, _, _, _, _, _, _, _, _, _, _, _, _, _, _, _, _, _, _, _, _, _, _, _, xf_InvalidLetter, xd_InvalidLetter, xv_InvalidLetter, xw_InvalidLetter, xg_InvalidLetter, rfl⟩, cell := ⟨_, _, _, xh_InvalidLetter⟩, top := by decide +kernel, sup := PySem.W.mg_none_of X G zsup, pnc := by simp }⟩
  x_InvalidOctets := ⟨c_InvalidOctets, t_InvalidOctets, i_InvalidOctets, k_InvalidOctets, { gC := PySem.W.mg_of X G zx_InvalidOctets, kC := xk_InvalidOctets, cls := ⟨_, _, _, _, _, _, _, _, _, _, _, _, _, _, xc_InvalidOctets⟩, sa := xs_InvalidOctets, noN := xn_InvalidOctets, iC := xi_InvalidOctets, tF := xt_InvalidOctets, sI := along_of xl_InvalidOctets xm_InvalidOctets xa_InvalidOctets, no3 := zno3, exC := xe_InvalidOctets, tyC := xy_InvalidOctets, fn := ⟨_, _, _, _, _, _, _, _, _, _, _, _, _, _, _, _, _, _, _, _, _, _, _, _, _, _, _, xf_InvalidOctets, xd_InvalidOctets, xv_InvalidOctets, xw_InvalidOctets, xg_InvalidOctets, rfl⟩, cell := ⟨_, _, _, xh_InvalidOctets⟩, top := by decide +kernel, sup := PySem.W.mg_none_of X G zsup, pnc := by simp }⟩
  x_InvalidSize := ⟨c_InvalidSize, t_InvalidSize, i_InvalidSize, k_InvalidSize, { gC := PySem.W.mg_of X G zx_InvalidSize, kC := xk_InvalidSize, cls := ⟨_, _, _, _, _, _, _, _, _, _, _, _, _, _, xc_InvalidSize⟩, sa := xs_InvalidSize, noN := xn_InvalidSize, iC := xi_InvalidSize, tF := xt_InvalidSize, sI := along_of xl_InvalidSize xm_InvalidSize xa_InvalidSize, no3 := zno3, exC := xe_InvalidSize, tyC := xy_InvalidSize, fn := ⟨_, _, _, _, _, _, _, _, _, _, _, _, _, _, _, _, _, _, _, _, _, _, _, _, _, _, _, xf_InvalidSize, xd_InvalidSize, xv_InvalidSize, xw_InvalidSize, xg_InvalidSize, rfl⟩, cell := ⟨_, _, _, xh_InvalidSize⟩, top := by decide +kernel, sup := PySem.W.mg_none_of X G zsup, pnc := by simp }⟩
  c_InvalidLetter := ⟨c_InvalidLetter, PySem.W.mg_of X G zx_InvalidLetter⟩
  c_InvalidOctets := ⟨c_InvalidOctets, PySem.W.mg_of X G zx_InvalidOctets⟩
  c_TunnelError := ⟨c_TunnelError, PySem.W.mg_of X G zx_TunnelError⟩
  exm := exmOk_of (all_cons (fun C D h1 h2 => by cases (PySem.W.mg_of X G zx_InvalidLetter).symm.trans h1; cases (PySem.W.mg_of X G zx_InvalidLetter).symm.trans h2; exact exm_of vs_InvalidLetter vc_InvalidLetter vt_InvalidLetter ze_0) (all_cons (fun C D h1 h2 => by cases (PySem.W.mg_of X G zx_InvalidLetter).symm.trans h1; cases (PySem.W.mg_of X G zx_InvalidOctets).symm.trans h2; exact exm_of vs_InvalidOctets vc_InvalidOctets vt_InvalidOctets ze_1) (all_cons (fun C D h1 h2 => by cases (PySem.W.mg_of X G zx_InvalidOctets).symm.trans h1; cases (PySem.W.mg_of X G zx_InvalidLetter).symm.trans h2; exact exm_of vs_InvalidLetter vc_InvalidLetter vt_InvalidLetter ze_2) (all_cons (fun C D h1 h2 => by cases (PySem.W.mg_of X G zx_InvalidOctets).symm.trans h1; cases (PySem.W.mg_of X G zx_InvalidOctets).symm.trans h2; exact exm_of vs_InvalidOctets vc_InvalidOctets vt_InvalidOctets ze_3) (all_cons (fun C D h1 h2 => by cases (PySem.W.mg_of X G zx_InvalidSize).symm.trans h1; cases (PySem.W.mg_of X G zx_InvalidLetter).symm.trans h2; exact exm_of vs_InvalidLetter vc_InvalidLetter vt_InvalidLetter ze_4) (all_cons (fun C D h1 h2 => by cases (PySem.W.mg_of X G zx_InvalidSize).symm.trans h1; cases (PySem.W.mg_of X G zx_InvalidOctets).symm.trans h2; exact exm_of vs_InvalidOctets vc_InvalidOctets vt_InvalidOctets ze_5) all_nil))))))
  xf := xfOk_of (all_cons (fun C h1 => by cases (PySem.W.mg_of X G zx_InvalidLetter).symm.trans h1; exact ⟨⟨hg_InvalidLetter, hk_InvalidLetter, vs_InvalidLetter, hd_InvalidLetter⟩, zq_0⟩) all_nil)
  isx := isxOk_of (all_cons (fun C D h1 h2 => by cases (PySem.W.mg_of X G zx_InvalidLetter).symm.trans h1; cases (PySem.W.mg_of X G zx_TunnelError).symm.trans h2; exact ⟨⟨vc_InvalidLetter, hg_InvalidLetter, hk_InvalidLetter, vs_InvalidLetter, ha_InvalidLetter, hn_, ht_, hm_InvalidLetter⟩, kit_ofC vc_TunnelError vt_TunnelError zo_0 (fun _ => rfl)⟩) all_nil)
theorem head_of {w : World} {K : PySem.W.Frag} {h : Heap} {mg : Str → Option Value} {fa : Addr} (hfa : mg ("law" : Str) = some (.ref fa)) (T : Txt PySem.Challenge.pw_putinonce_k78_datagrams_and_payloads K mg) :
    ∃ fd : FuncData, (∀ (s : Shared) (u : Value), BindsTo s fd ⟨[u], []⟩ [(("script" : Str), u)]) ∧ ∀ base : Heap, K.In base → base.Ns mainGlobals mg → FnM PySem.Challenge.pw_putinonce_k78_datagrams_and_payloads w K mg base 9 fa fd [("script" : Str)] m_law := by
  obtain ⟨f, oc, od, dV, kV, doc, pm, an, cdv, ct, osl, h1, h2, h3, h4, h5⟩ := T.d_law.ex
  cases h1.symm.trans hfa
  rcases h5 with ⟨_, rfl⟩ | ⟨z, _⟩
  · exact ⟨_, fun s u => .of_eq rfl, fun base _ _ => fn_sim h2 h3 sc_law (sm_law T)⟩
  · exact absurd rfl z
end Lw
open PySem PySem.W PyProof.Rows
set_option maxRecDepth 100000 in
set_option maxHeartbeats 0 in
theorem PySem.Challenge.cw_putinonce_k78_datagrams_and_payloads_holds : PySem.Challenge.rw_putinonce_k78_datagrams_and_payloads.Holds := by
  w_on; o_law; k_head; (case hw => w_witness2)
  k_fill
  refine Sm.sm_walk (l := PySem.Challenge.rw_putinonce_k78_datagrams_and_payloads) (n := 63) (k := 9) (x := ("script" : Str)) (m := Lw.m_law) rfl (by decide) rfl ⟨rfl, by decide, by decide⟩ (fun w h Y => PySem.W.kIn_of Y) ?F Lw.plain_law
  case F =>
    intro w mg fa h KX G hmg
    refine Lw.head_of (h := h) hmg ?T
    refine' Lw.txt_mk KX G ?zn_abs ?zn_bool ?zn_enumerate ?zn_int ?zn_isinstance ?zn_len ?zn_list ?zn_range ?zn_repr ?zn_tuple ?zg_ANSWER ?zg_ANSWER_PAYLOAD ?zg_COUNTERS ?zg_FIRST ?zg_FIRST_PAYLOAD ?zg_HEADS ?zh_HEADS ?zg_LABEL ?zg_NO_NAME ?zh_NO_NAME ?zg_SEALED ?za_first_datagram ?zl_first_datagram ?zc_first_datagram ?zk_first_datagram ?za_octets_of ?zl_octets_of ?zc_octets_of ?zk_octets_of ?za_answer_datagram ?zl_answer_datagram ?zc_answer_datagram ?zk_answer_datagram ?za_sealed_head ?zl_sealed_head ?zc_sealed_head ?zk_sealed_head ?za_sealed_datagram ?zl_sealed_datagram ?zc_sealed_datagram ?zk_sealed_datagram ?za_is_integer ?zl_is_integer ?zc_is_integer ?zk_is_integer ?za_is_below ?zl_is_below ?zc_is_below ?zk_is_below ?za_wrong_place ?zl_wrong_place ?zc_wrong_place ?zk_wrong_place ?za_is_octets ?zl_is_octets ?zc_is_octets ?zk_is_octets ?za_number_of ?zl_number_of ?zc_number_of ?zk_number_of ?za_is_counter ?zl_is_counter ?zc_is_counter ?zk_is_counter ?za_read_datagram ?zl_read_datagram ?zc_read_datagram ?zk_read_datagram ?za__law_deal ?zl__law_deal ?zc__law_deal ?zk__law_deal ?za__law_any ?zl__law_any ?zc__law_any ?zk__law_any ?za__law_of ?zl__law_of ?zc__law_of ?zk__law_of ?za__law_octets ?zl__law_octets ?zc__law_octets ?zk__law_octets ?za__law_low ?zl__law_low ?zc__law_low ?zk__law_low ?za__law_value ?zl__law_value ?zc__law_value ?zk__law_value ?za__law_number ?zl__law_number ?zc__law_number ?zk__law_number ?za__law_is_octets ?zl__law_is_octets ?zc__law_is_octets ?zk__law_is_octets ?za__law_read ?zl__law_read ?zc__law_read ?zk__law_read ?za__law_told ?zl__law_told ?zc__law_told ?zk__law_told ?za_big_octets_of ?zl_big_octets_of ?zc_big_octets_of ?zk_big_octets_of ?za_stamp_octets ?zl_stamp_octets ?zc_stamp_octets ?zk_stamp_octets ?za_said_octets ?zl_said_octets ?zc_said_octets ?zk_said_octets ?za_first_payload ?zl_first_payload ?zc_first_payload ?zk_first_payload ?za_need_octets ?zl_need_octets ?zc_need_octets ?zk_need_octets ?zt_need_octets ?za_big_number_of ?zl_big_number_of ?zc_big_number_of ?zk_big_number_of ?za_read_stamp ?zl_read_stamp ?zc_read_stamp ?zk_read_stamp ?za_read_said ?zl_read_said ?zc_read_said ?zk_read_said ?za_read_first_payload ?zl_read_first_payload ?zc_read_first_payload ?zk_read_first_payload ?za_answer_payload ?zl_answer_payload ?zc_answer_payload ?zk_answer_payload ?za_read_answer_payload ?zl_read_answer_payload ?zc_read_answer_payload ?zk_read_answer_payload ?za__law_high ?zl__law_high ?zc__law_high ?zk__law_high ?za__law_name ?zl__law_name ?zc__law_name ?zk__law_name ?za__law_said ?zl__law_said ?zc__law_said ?zk__law_said ?za__law_told_name ?zl__law_told_name ?zc__law_told_name ?zk__law_told_name ?za__law_two ?zl__law_two ?zc__law_two ?zk__law_two ?za__law_payloads ?zl__law_payloads ?zc__law_payloads ?zk__law_payloads ?za_law ?zl_law ?zc_law ?zk_law ?zsup ?zno3 ?zx_InvalidLetter ?zx_InvalidOctets ?zx_InvalidSize ?zx_TunnelError ?xk_InvalidLetter ?xc_InvalidLetter ?xs_InvalidLetter ?xn_InvalidLetter ?xi_InvalidLetter ?xt_InvalidLetter ?xl_InvalidLetter ?xm_InvalidLetter ?xa_InvalidLetter ?xe_InvalidLetter ?xy_InvalidLetter ?xf_InvalidLetter ?xd_InvalidLetter ?xv_InvalidLetter ?xw_InvalidLetter ?xg_InvalidLetter ?xh_InvalidLetter ?xk_InvalidOctets ?xc_InvalidOctets ?xs_InvalidOctets ?xn_InvalidOctets ?xi_InvalidOctets ?xt_InvalidOctets ?xl_InvalidOctets ?xm_InvalidOctets ?xa_InvalidOctets ?xe_InvalidOctets ?xy_InvalidOctets ?xf_InvalidOctets ?xd_InvalidOctets ?xv_InvalidOctets ?xw_InvalidOctets ?xg_InvalidOctets ?xh_InvalidOctets ?xk_InvalidSize ?xc_InvalidSize ?xs_InvalidSize ?xn_InvalidSize ?xi_InvalidSize ?xt_InvalidSize ?xl_InvalidSize ?xm_InvalidSize ?xa_InvalidSize ?xe_InvalidSize ?xy_InvalidSize ?xf_InvalidSize ?xd_InvalidSize ?xv_InvalidSize ?xw_InvalidSize ?xg_InvalidSize ?xh_InvalidSize ?vs_InvalidLetter ?vc_InvalidLetter ?vt_InvalidLetter ?vs_InvalidOctets ?vc_InvalidOctets ?vt_InvalidOctets ?vs_TunnelError ?vc_TunnelError ?vt_TunnelError ?hg_InvalidLetter ?hk_InvalidLetter ?hd_InvalidLetter ?ha_InvalidLetter ?hm_InvalidLetter ?hn_ ?ht_ ?ze_0 ?ze_1 ?ze_2 ?ze_3 ?ze_4 ?ze_5 ?zq_0 ?zo_0
    (case zn_abs => k_is)
    (case zn_bool => k_is)
    (case zn_enumerate => k_is)
    (case zn_int => k_is)
    (case zn_isinstance => k_is)
    (case zn_len => k_is)
    (case zn_list => k_is)
    (case zn_range => k_is)
    (case zn_repr => k_is)
    (case zn_tuple => k_is)
    (case zg_ANSWER => k_is)
    (case zg_ANSWER_PAYLOAD => k_is)
    (case zg_COUNTERS => k_is)
    (case zg_FIRST => k_is)
    (case zg_FIRST_PAYLOAD => k_is)
    (case zg_HEADS => k_is)
    (case zh_HEADS => k_is)
    (case zg_LABEL => k_is)
    (case zg_NO_NAME => k_is)
    (case zh_NO_NAME => k_is)
    (case zg_SEALED => k_is)
    (case za_first_datagram => k_is)
    (case zl_first_datagram => k_is)
    (case zc_first_datagram => k_is)
    (case zk_first_datagram => k_is)
    (case za_octets_of => k_is)
    (case zl_octets_of => k_is)
    (case zc_octets_of => k_is)
    (case zk_octets_of => k_is)
    (case za_answer_datagram => k_is)
    (case zl_answer_datagram => k_is)
    (case zc_answer_datagram => k_is)
    (case zk_answer_datagram => k_is)
    (case za_sealed_head => k_is)
    (case zl_sealed_head => k_is)
    (case zc_sealed_head => k_is)
    (case zk_sealed_head => k_is)
    (case za_sealed_datagram => k_is)
    (case zl_sealed_datagram => k_is)
    (case zc_sealed_datagram => k_is)
    (case zk_sealed_datagram => k_is)
    (case za_is_integer => k_is)
    (case zl_is_integer => k_is)
    (case zc_is_integer => k_is)
    (case zk_is_integer => k_is)
    (case za_is_below => k_is)
    (case zl_is_below => k_is)
    (case zc_is_below => k_is)
    (case zk_is_below => k_is)
    (case za_wrong_place => k_is)
    (case zl_wrong_place => k_is)
    (case zc_wrong_place => k_is)
    (case zk_wrong_place => k_is)
    (case za_is_octets => k_is)
    (case zl_is_octets => k_is)
    (case zc_is_octets => k_is)
    (case zk_is_octets => k_is)
    (case za_number_of => k_is)
    (case zl_number_of => k_is)
    (case zc_number_of => k_is)
    (case zk_number_of => k_is)
    (case za_is_counter => k_is)
    (case zl_is_counter => k_is)
    (case zc_is_counter => k_is)
    (case zk_is_counter => k_is)
    (case za_read_datagram => k_is)
    (case zl_read_datagram => k_is)
    (case zc_read_datagram => k_is)
    (case zk_read_datagram => k_is)
    (case za__law_deal => k_is)
    (case zl__law_deal => k_is)
    (case zc__law_deal => k_is)
    (case zk__law_deal => k_is)
    (case za__law_any => k_is)
    (case zl__law_any => k_is)
    (case zc__law_any => k_is)
    (case zk__law_any => k_is)
    (case za__law_of => k_is)
    (case zl__law_of => k_is)
    (case zc__law_of => k_is)
    (case zk__law_of => k_is)
    (case za__law_octets => k_is)
    (case zl__law_octets => k_is)
    (case zc__law_octets => k_is)
    (case zk__law_octets => k_is)
    (case za__law_low => k_is)
    (case zl__law_low => k_is)
    (case zc__law_low => k_is)
    (case zk__law_low => k_is)
    (case za__law_value => k_is)
    (case zl__law_value => k_is)
    (case zc__law_value => k_is)
    (case zk__law_value => k_is)
    (case za__law_number => k_is)
    (case zl__law_number => k_is)
    (case zc__law_number => k_is)
    (case zk__law_number => k_is)
    (case za__law_is_octets => k_is)
    (case zl__law_is_octets => k_is)
    (case zc__law_is_octets => k_is)
    (case zk__law_is_octets => k_is)
    (case za__law_read => k_is)
    (case zl__law_read => k_is)
    (case zc__law_read => k_is)
    (case zk__law_read => k_is)
    (case za__law_told => k_is)
    (case zl__law_told => k_is)
    (case zc__law_told => k_is)
    (case zk__law_told => k_is)
    (case za_big_octets_of => k_is)
    (case zl_big_octets_of => k_is)
    (case zc_big_octets_of => k_is)
    (case zk_big_octets_of => k_is)
    (case za_stamp_octets => k_is)
    (case zl_stamp_octets => k_is)
    (case zc_stamp_octets => k_is)
    (case zk_stamp_octets => k_is)
    (case za_said_octets => k_is)
    (case zl_said_octets => k_is)
    (case zc_said_octets => k_is)
    (case zk_said_octets => k_is)
    (case za_first_payload => k_is)
    (case zl_first_payload => k_is)
    (case zc_first_payload => k_is)
    (case zk_first_payload => k_is)
    (case za_need_octets => k_is)
    (case zl_need_octets => k_is)
    (case zc_need_octets => k_is)
    (case zk_need_octets => k_is)
    (case zt_need_octets => k_is)
    (case za_big_number_of => k_is)
    (case zl_big_number_of => k_is)
    (case zc_big_number_of => k_is)
    (case zk_big_number_of => k_is)
    (case za_read_stamp => k_is)
    (case zl_read_stamp => k_is)
    (case zc_read_stamp => k_is)
    (case zk_read_stamp => k_is)
    (case za_read_said => k_is)
    (case zl_read_said => k_is)
    (case zc_read_said => k_is)
    (case zk_read_said => k_is)
    (case za_read_first_payload => k_is)
    (case zl_read_first_payload => k_is)
    (case zc_read_first_payload => k_is)
    (case zk_read_first_payload => k_is)
    (case za_answer_payload => k_is)
    (case zl_answer_payload => k_is)
    (case zc_answer_payload => k_is)
    (case zk_answer_payload => k_is)
    (case za_read_answer_payload => k_is)
    (case zl_read_answer_payload => k_is)
    (case zc_read_answer_payload => k_is)
    (case zk_read_answer_payload => k_is)
    (case za__law_high => k_is)
    (case zl__law_high => k_is)
    (case zc__law_high => k_is)
    (case zk__law_high => k_is)
    (case za__law_name => k_is)
    (case zl__law_name => k_is)
    (case zc__law_name => k_is)
    (case zk__law_name => k_is)
    (case za__law_said => k_is)
    (case zl__law_said => k_is)
    (case zc__law_said => k_is)
    (case zk__law_said => k_is)
    (case za__law_told_name => k_is)
    (case zl__law_told_name => k_is)
    (case zc__law_told_name => k_is)
    (case zk__law_told_name => k_is)
    (case za__law_two => k_is)
    (case zl__law_two => k_is)
    (case zc__law_two => k_is)
    (case zk__law_two => k_is)
    (case za__law_payloads => k_is)
    (case zl__law_payloads => k_is)
    (case zc__law_payloads => k_is)
    (case zk__law_payloads => k_is)
    (case za_law => k_is)
    (case zl_law => k_is)
    (case zc_law => k_is)
    (case zk_law => k_is)
    (case zsup => k_is)
    (case zno3 => k_is)
    (case zx_InvalidLetter => k_is)
    (case zx_InvalidOctets => k_is)
    (case zx_InvalidSize => k_is)
    (case zx_TunnelError => k_is)
    (case xk_InvalidLetter => k_is)
    (case xc_InvalidLetter => k_is)
    (case xs_InvalidLetter => k_is)
    (case xn_InvalidLetter => k_is)
    (case xi_InvalidLetter => k_is)
    (case xt_InvalidLetter => k_is)
    (case xl_InvalidLetter => k_is)
    (case xm_InvalidLetter => rfl)
    (case xa_InvalidLetter => k_is)
    (case xe_InvalidLetter => k_is)
    (case xy_InvalidLetter => k_is)
    (case xf_InvalidLetter => k_is)
    (case xd_InvalidLetter => k_is)
    (case xv_InvalidLetter => k_is)
    (case xw_InvalidLetter => first | rfl | k_is)
    (case xg_InvalidLetter => first | rfl | decide +kernel)
    (case xh_InvalidLetter => k_is)
    (case xk_InvalidOctets => k_is)
    (case xc_InvalidOctets => k_is)
    (case xs_InvalidOctets => k_is)
    (case xn_InvalidOctets => k_is)
    (case xi_InvalidOctets => k_is)
    (case xt_InvalidOctets => k_is)
    (case xl_InvalidOctets => k_is)
    (case xm_InvalidOctets => rfl)
    (case xa_InvalidOctets => k_is)
    (case xe_InvalidOctets => k_is)
    (case xy_InvalidOctets => k_is)
    (case xf_InvalidOctets => k_is)
    (case xd_InvalidOctets => k_is)
    (case xv_InvalidOctets => k_is)
    (case xw_InvalidOctets => first | rfl | k_is)
    (case xg_InvalidOctets => first | rfl | decide +kernel)
    (case xh_InvalidOctets => k_is)
    (case xk_InvalidSize => k_is)
    (case xc_InvalidSize => k_is)
    (case xs_InvalidSize => k_is)
    (case xn_InvalidSize => k_is)
    (case xi_InvalidSize => k_is)
    (case xt_InvalidSize => k_is)
    (case xl_InvalidSize => k_is)
    (case xm_InvalidSize => rfl)
    (case xa_InvalidSize => k_is)
    (case xe_InvalidSize => k_is)
    (case xy_InvalidSize => k_is)
    (case xf_InvalidSize => k_is)
    (case xd_InvalidSize => k_is)
    (case xv_InvalidSize => k_is)
    (case xw_InvalidSize => first | rfl | k_is)
    (case xg_InvalidSize => first | rfl | decide +kernel)
    (case xh_InvalidSize => k_is)
    (case vs_InvalidLetter => k_is)
    (case vc_InvalidLetter => k_is)
    (case vt_InvalidLetter => k_is)
    (case vs_InvalidOctets => k_is)
    (case vc_InvalidOctets => k_is)
    (case vt_InvalidOctets => k_is)
    (case vs_TunnelError => k_is)
    (case vc_TunnelError => k_is)
    (case vt_TunnelError => k_is)
    (case hg_InvalidLetter => k_is)
    (case hk_InvalidLetter => k_is)
    (case hd_InvalidLetter => k_is)
    (case ha_InvalidLetter => k_is)
    (case hm_InvalidLetter => k_is)
    (case hn_ => k_is)
    (case ht_ => k_is)
    (case ze_0 => k_is)
    (case ze_1 => k_is)
    (case ze_2 => k_is)
    (case ze_3 => k_is)
    (case ze_4 => k_is)
    (case ze_5 => k_is)
    (case zq_0 => k_is)
    (case zo_0 => k_is)
#print axioms PySem.Challenge.cw_putinonce_k78_datagrams_and_payloads_holds

