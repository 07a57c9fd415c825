import PyProof.Rows.All
import HandS.ForMost
import HandS.ForExc
import HandS.Flow
import HandS.TupAny
import HandS.TupMul
import HandS.IsInst
import HandS.Star
import HandS.NoneIn
import KE.KUnpackStar
import HandS.Defaults
import HandS.CallSlots
import HandS.Ends
import HandS.Style
import KE.KDictZip
import KE.GoesEnum
import HandS.CallLocal
import Open.Gens
import HandS.GenList
import PySem.Challenge.RW_evermeant_k24_there_in_inner_modules
set_option Elab.async false
set_option linter.all false
set_option maxRecDepth 100000
set_option autoImplicit false
/-! EvA: an evaluator's values, its heap, and how they stand for the hand layer's values and abstract heap. -/
namespace EV
open PySem PySem.Spec PyProof.Rows L2

/-- built-in types that are asked for -/
inductive Ty where
  | int | str | bool | tuple | list | dict
  deriving DecidableEq
def Ty.nm : Ty → String
  | .int => "int" | .str => "str" | .bool => "bool" | .tuple => "tuple" | .list => "list" | .dict => "dict"
/-- a value: data (tuples and lists that nobody changes any more are data, too), a reference to an object that changes, a def -/
inductive D where
  | non | bl (b : Bool) | int (i : Int) | str (s : Str)
  | tup (xs : List D) | lst (xs : List D)
  | ref (n : Nat)
  | fn (n : Nat)
  | ty (t : Ty)
  | cl (n : Nat)
  /-- the law's script -/
  | scr (ns : List Int)
  /-- a dict that nobody changes any more: its keys, their values -/
  | dic (ks : List Key) (vs : List D)

/-- an object that changes -/
inductive MO where
  | lst (xs : List D)
  | dic (ks : List Key) (vs : List D)
  | dead

abbrev Hd := List MO

/-- an error of the program: its class's number, its fields -/
structure Exn where
  cls : Nat
  fs : List (Str × D)

inductive Res (α : Type) where
  | ok (a : α) (h : Hd)
  | exc (e : Exn) (h : Hd)
  | bad

abbrev Env := List (Option D)
abbrev M (α : Type) := Env → Hd → Res α

@[inline] def Res.bind {α β : Type} : Res α → (α → Hd → Res β) → Res β
  | .ok a h, f => f a h
  | .exc e h, _ => .exc e h
  | .bad, _ => .bad

@[simp] theorem Res.bind_ok {α β : Type} (a : α) (h : Hd) (f : α → Hd → Res β) : (Res.ok a h).bind f = f a h := rfl
@[simp] theorem Res.bind_bad {α β : Type} (f : α → Hd → Res β) : (Res.bad : Res α).bind f = .bad := rfl
@[simp] theorem Res.bind_exc {α β : Type} (e : Exn) (h : Hd) (f : α → Hd → Res β) : (Res.exc e h : Res α).bind f = .exc e h := rfl

/-- where the program's defs and classes stand -/
structure Ctx where
  K : PySem.W.Frag
  fa : Nat → Addr
  ca : Nat → Addr

/-- where the objects that change stand (none: it changes no more); lists that are being made, out of sight -/
structure Rho where
  r : List (Option Addr)
  hid : List Addr
/-- no object that changes stands at a -/
def Unr (ρ : Rho) (a : Addr) : Prop := ∀ n : Nat, ρ.r[n]? ≠ some (some a)
def Unm (ρ : Rho) (a : Addr) : Prop := Unr ρ a ∧ a ∉ ρ.hid
/-- a list, a tuple of the written part -/
def KL (K : PySem.W.Frag) (a : Addr) (xs : List V) : Prop :=
  ∃ (o : Obj) (its : Array Value) (n : Nat), K.lookup a = some o ∧ o.cls = .type "list" ∧ o.dict = none ∧ o.data = .seq its n ∧ its.size ≤ sizeLine ∧ Vals xs its.toList
def KT (K : PySem.W.Frag) (a : Addr) (xs : List V) : Prop :=
  ∃ (o : Obj) (its : Array Value) (n : Nat), K.lookup a = some o ∧ o.cls = .type "tuple" ∧ o.data = .seq its n ∧ its.size ≤ sizeLine ∧ Vals xs its.toList
def FL (C : Ctx) (ρ : Rho) (H : Hp) (a : Addr) (xs : List V) : Prop := (Rd H a (.lst xs) ∧ Unm ρ a) ∨ KL C.K a xs
def FT (C : Ctx) (ρ : Rho) (H : Hp) (a : Addr) (xs : List V) : Prop := (Rd H a (.tup xs) ∧ Unm ρ a) ∨ KT C.K a xs
theorem FL.sq {C : Ctx} {ρ : Rho} {H : Hp} {a : Addr} {xs : List V} (h : FL C ρ H a xs) : SqL C.K H a xs := h.elim (fun h => .inl h.1) .inr
theorem FT.sq {C : Ctx} {ρ : Rho} {H : Hp} {a : Addr} {xs : List V} (h : FT C ρ H a xs) : SqT C.K H a xs := h.elim (fun h => .inl h.1) .inr

mutual
def Rel (C : Ctx) (ρ : Rho) (H : Hp) : D → V → Prop
  | .non, v => v = .non
  | .bl b, v => v = .bl b
  | .int i, v => v = .int i
  | .str s, v => v = .str s ∧ s.length ≤ sizeLine
  | .tup xs, v => ∃ a vs, v = .ref a ∧ FT C ρ H a vs ∧ RelL C ρ H xs vs ∧ xs.length ≤ sizeLine
  | .lst xs, v => ∃ a vs, v = .ref a ∧ (H a = some (.lst vs) ∧ Unm ρ a) ∧ RelL C ρ H xs vs ∧ xs.length ≤ sizeLine
  | .ref n, v => ∃ a, v = .ref a ∧ (ρ.r[n]? = some (some a) ∨ ρ.r[n]? = some none)
  | .fn n, v => v = .ref (C.fa n)
  | .ty t, v => v = .ty t.nm
  | .cl n, v => v = .ref (C.ca n)
  | .scr ns, v => ∃ a, v = .ref a ∧ FL C ρ H a (ns.map V.int) ∧ ns.length ≤ sizeLine
  | .dic ks ds, v => ∃ a vs, v = .ref a ∧ (H a = some (.dK (ks.zip vs)) ∧ Unm ρ a) ∧ RelL C ρ H ds vs ∧ ks.length = ds.length
def RelL (C : Ctx) (ρ : Rho) (H : Hp) : List D → List V → Prop
  | [], vs => vs = []
  | d :: ds, vs => ∃ v r, vs = v :: r ∧ Rel C ρ H d v ∧ RelL C ρ H ds r
end

/-- an object that changes, as the abstract heap has it -/
def ORel (C : Ctx) (ρ : Rho) (H : Hp) : MO → Option HO → Prop
  | .lst xs, o => ∃ vs, o = some (.lst vs) ∧ RelL C ρ H xs vs ∧ xs.length ≤ sizeLine
  | .dic ks ds, o => ∃ vs, o = some (.dK (ks.zip vs)) ∧ RelL C ρ H ds vs ∧ ks.length = ds.length
  | .dead, _ => False

structure SimH (C : Ctx) (ρ : Rho) (H : Hp) (hd : Hd) : Prop where
  len : ρ.r.length = hd.length
  inj : ∀ (m n : Nat) (a : Addr), ρ.r[m]? = some (some a) → ρ.r[n]? = some (some a) → m = n
  at_ : ∀ (n : Nat) (a : Addr), ρ.r[n]? = some (some a) → ∃ o, hd[n]? = some o ∧ ORel C ρ H o (H a)
  live : ∀ (n : Nat) (o : MO), hd[n]? = some o → ρ.r[n]? = some none → o = .dead
  hidS : ∀ a ∈ ρ.hid, H a ≠ none
  apart : ∀ (n : Nat) (a : Addr), ρ.r[n]? = some (some a) → a ∉ ρ.hid

/-- later: what was there and does not change is as it was -/
structure Ext (ρ ρ' : Rho) (H H' : Hp) : Prop where
  le : ρ.r.length ≤ ρ'.r.length
  old : ∀ n : Nat, n < ρ.r.length → ρ'.r[n]? = ρ.r[n]? ∨ ρ'.r[n]? = some none
  new : ∀ (n : Nat) (a : Addr), ρ.r.length ≤ n → ρ'.r[n]? = some (some a) → H a = none
  keep : ∀ a o, H a = some o → Unr ρ a → H' a = some o
  dom : ∀ a, H' a = none → H a = none
  hid : ρ'.hid = ρ.hid

section
variable {C : Ctx} {ρ ρ' ρ'' : Rho} {H H' H'' : Hp} {hd hd' : Hd}

theorem Ext.refl : Ext ρ ρ H H := ⟨Nat.le_refl _, fun _ _ => .inl rfl, fun n a h e => (by
  rw [List.getElem?_eq_none h] at e
  cases e), fun _ _ e _ => e, fun _ e => e, rfl⟩

theorem Unr.ext {a : Addr} {o : HO} (x : Ext ρ ρ' H H') (h : H a = some o) (f : Unr ρ a) : Unr ρ' a := by
  intro n e
  by_cases hn : n < ρ.r.length
  · rcases x.old n hn with q | q
    · rw [q] at e; exact f n e
    · rw [q] at e; cases e
  · have := x.new n a (Nat.le_of_not_lt hn) e
    rw [h] at this; cases this

theorem Unm.ext {a : Addr} {o : HO} (x : Ext ρ ρ' H H') (h : H a = some o) (f : Unm ρ a) : Unm ρ' a := ⟨f.1.ext x h, by rw [x.hid]; exact f.2⟩

theorem Ext.trans (x : Ext ρ ρ' H H') (y : Ext ρ' ρ'' H' H'') : Ext ρ ρ'' H H'' where
  le := Nat.le_trans x.le y.le
  old := fun n hn => by
    rcases y.old n (Nat.lt_of_lt_of_le hn x.le) with q | q
    · rw [q]; exact x.old n hn
    · exact .inr q
  new := fun n a hn e => by
    by_cases hm : n < ρ'.r.length
    · rcases y.old n hm with q | q
      · rw [q] at e; exact x.new n a hn e
      · rw [q] at e; cases e
    · exact x.dom a (y.new n a (Nat.le_of_not_lt hm) e)
  keep := fun a o e f => y.keep a o (x.keep a o e f) (f.ext x e)
  dom := fun a e => x.dom a (y.dom a e)
  hid := y.hid.trans x.hid

/-- what a value leans on is kept -/
structure Keeps (ρ ρ' : Rho) (H H' : Hp) : Prop where
  frz : ∀ a o, H a = some o → Unm ρ a → H' a = some o ∧ Unm ρ' a
  old : ∀ n : Nat, n < ρ.r.length → ρ'.r[n]? = ρ.r[n]? ∨ ρ'.r[n]? = some none
theorem Ext.keeps (x : Ext ρ ρ' H H') : Keeps ρ ρ' H H' := ⟨fun a o h f => ⟨x.keep a o h f.1, f.ext x h⟩, x.old⟩
theorem Keeps.refl : Keeps ρ ρ H H := Ext.refl.keeps
theorem Keeps.trans (x : Keeps ρ ρ' H H') (y : Keeps ρ' ρ'' H' H'') (hl : ρ.r.length ≤ ρ'.r.length) : Keeps ρ ρ'' H H'' :=
  ⟨fun a o h f => let ⟨h1, f1⟩ := x.frz a o h f; y.frz a o h1 f1, fun n hn => by
    rcases y.old n (Nat.lt_of_lt_of_le hn hl) with q | q
    · rw [q]; exact x.old n hn
    · exact .inr q⟩
theorem Rd.keeps {a : Addr} {u : HO} (x : Keeps ρ ρ' H H') (h : Rd H a u ∧ Unm ρ a) : Rd H' a u ∧ Unm ρ' a := by
  obtain ⟨h | ⟨o, h⟩, f⟩ := h
  · exact ⟨.inl (x.frz _ _ h f).1, (x.frz _ _ h f).2⟩
  · exact ⟨.inr ⟨o, (x.frz _ _ h f).1⟩, (x.frz _ _ h f).2⟩
theorem FL.keeps {a : Addr} {xs : List V} (x : Keeps ρ ρ' H H') (h : FL C ρ H a xs) : FL C ρ' H' a xs := h.elim (fun h => .inl (Rd.keeps x h)) .inr
theorem FT.keeps {a : Addr} {xs : List V} (x : Keeps ρ ρ' H H') (h : FT C ρ H a xs) : FT C ρ' H' a xs := h.elim (fun h => .inl (Rd.keeps x h)) .inr

mutual
theorem Rel.keeps (x : Keeps ρ ρ' H H') : ∀ (d : D) (v : V), Rel C ρ H d v → Rel C ρ' H' d v
  | .non, _, h => h
  | .bl _, _, h => h
  | .int _, _, h => h
  | .str _, _, h => by simp only [Rel] at h ⊢; exact h
  | .fn _, _, h => h
  | .ty _, _, h => h
  | .cl _, _, h => h
  | .tup xs, v, h => by
    simp only [Rel] at h ⊢
    obtain ⟨a, vs, e, f, r, z⟩ := h
    exact ⟨a, vs, e, f.keeps x, RelL.keeps x xs vs r, z⟩
  | .lst xs, v, h => by
    simp only [Rel] at h ⊢
    obtain ⟨a, vs, e, ⟨f, g⟩, r, z⟩ := h
    exact ⟨a, vs, e, x.frz _ _ f g, RelL.keeps x xs vs r, z⟩
  | .scr ns, v, h => by
    simp only [Rel] at h ⊢
    obtain ⟨a, e, f, z⟩ := h
    exact ⟨a, e, f.keeps x, z⟩
  | .dic ks ds, v, h => by
    simp only [Rel] at h ⊢
    obtain ⟨a, vs, e, ⟨f, g⟩, r, z⟩ := h
    exact ⟨a, vs, e, x.frz _ _ f g, RelL.keeps x ds vs r, z⟩
  | .ref n, v, h => by
    simp only [Rel] at h ⊢
    obtain ⟨a, e, f⟩ := h
    refine ⟨a, e, ?_⟩
    have hn : n < ρ.r.length := by
      rcases f with f | f <;> exact (List.getElem?_eq_some_iff.mp f).1
    rcases x.old n hn with q | q
    · rw [q]; exact f
    · exact .inr q
theorem RelL.keeps (x : Keeps ρ ρ' H H') : ∀ (ds : List D) (vs : List V), RelL C ρ H ds vs → RelL C ρ' H' ds vs
  | [], _, h => h
  | d :: ds, vs, h => by
    simp only [RelL] at h ⊢
    obtain ⟨v, r, e, h1, h2⟩ := h
    exact ⟨v, r, e, Rel.keeps x d v h1, RelL.keeps x ds r h2⟩
end
theorem Rel.ext (x : Ext ρ ρ' H H') (d : D) (v : V) (h : Rel C ρ H d v) : Rel C ρ' H' d v := Rel.keeps x.keeps d v h
theorem RelL.ext (x : Ext ρ ρ' H H') (ds : List D) (vs : List V) (h : RelL C ρ H ds vs) : RelL C ρ' H' ds vs := RelL.keeps x.keeps ds vs h

theorem RelL.length : ∀ {ds : List D} {vs : List V}, RelL C ρ H ds vs → ds.length = vs.length
  | [], _, h => by simp only [RelL] at h; rw [h]; rfl
  | d :: ds, vs, h => by
    simp only [RelL] at h
    obtain ⟨v, r, e, h1, h2⟩ := h
    rw [e, List.length_cons, List.length_cons, RelL.length h2]
theorem RelL.nil_iff {vs : List V} : RelL C ρ H [] vs ↔ vs = [] := by simp only [RelL]
theorem RelL.cons {d : D} {ds : List D} {v : V} {vs : List V} (h1 : Rel C ρ H d v) (h2 : RelL C ρ H ds vs) : RelL C ρ H (d :: ds) (v :: vs) := by
  simp only [RelL]; exact ⟨v, vs, rfl, h1, h2⟩
theorem RelL.nil : RelL C ρ H [] [] := by simp only [RelL]
theorem RelL.get : ∀ {ds : List D} {vs : List V} {i : Nat} {d : D}, RelL C ρ H ds vs → ds[i]? = some d → ∃ v, vs[i]? = some v ∧ Rel C ρ H d v
  | [], _, i, d, _, e => by simp at e
  | d :: ds, vs, i, d', h, e => by
    simp only [RelL] at h
    obtain ⟨v, r, rfl, h1, h2⟩ := h
    cases i with
    | zero => simp at e; subst e; exact ⟨v, by simp, h1⟩
    | succ i => 
      obtain ⟨w, q1, q2⟩ := RelL.get (i := i) h2 (by simpa using e)
      exact ⟨w, by simpa using q1, q2⟩
theorem RelL.append : ∀ {ds es : List D} {vs ws : List V}, RelL C ρ H ds vs → RelL C ρ H es ws → RelL C ρ H (ds ++ es) (vs ++ ws)
  | [], _, _, _, h, h' => by simp only [RelL] at h; subst h; exact h'
  | d :: ds, es, vs, ws, h, h' => by
    simp only [RelL] at h
    obtain ⟨v, r, rfl, h1, h2⟩ := h
    exact RelL.cons h1 (RelL.append h2 h')
theorem RelL.take : ∀ {ds : List D} {vs : List V} (n : Nat), RelL C ρ H ds vs → RelL C ρ H (ds.take n) (vs.take n)
  | [], _, n, h => by simp only [RelL] at h; subst h; simp [RelL]
  | d :: ds, vs, 0, h => by simp [RelL]
  | d :: ds, vs, n + 1, h => by
    simp only [RelL] at h
    obtain ⟨v, r, rfl, h1, h2⟩ := h
    exact RelL.cons h1 (RelL.take n h2)
theorem RelL.drop : ∀ {ds : List D} {vs : List V} (n : Nat), RelL C ρ H ds vs → RelL C ρ H (ds.drop n) (vs.drop n)
  | [], _, n, h => by simp only [RelL] at h; subst h; simp [RelL]
  | d :: ds, vs, 0, h => h
  | d :: ds, vs, n + 1, h => by
    simp only [RelL] at h
    obtain ⟨v, r, rfl, h1, h2⟩ := h
    exact RelL.drop n h2
theorem RelL.set {d : D} {v : V} (hr : Rel C ρ H d v) : ∀ {ds : List D} {vs : List V} (n : Nat), RelL C ρ H ds vs → RelL C ρ H (ds.set n d) (vs.set n v)
  | [], _, n, h => by simp only [RelL] at h; subst h; simp [RelL]
  | d' :: ds, vs, 0, h => by
    simp only [RelL] at h
    obtain ⟨w, r, rfl, h1, h2⟩ := h
    exact RelL.cons hr h2
  | d' :: ds, vs, n + 1, h => by
    simp only [RelL] at h
    obtain ⟨w, r, rfl, h1, h2⟩ := h
    exact RelL.cons h1 (RelL.set hr n h2)
theorem RelL.eraseIdx : ∀ {ds : List D} {vs : List V} (n : Nat), RelL C ρ H ds vs → RelL C ρ H (ds.eraseIdx n) (vs.eraseIdx n)
  | [], _, n, h => by simp only [RelL] at h; subst h; simp [RelL]
  | d' :: ds, vs, 0, h => by
    simp only [RelL] at h
    obtain ⟨w, r, rfl, h1, h2⟩ := h
    exact h2
  | d' :: ds, vs, n + 1, h => by
    simp only [RelL] at h
    obtain ⟨w, r, rfl, h1, h2⟩ := h
    exact RelL.cons h1 (RelL.eraseIdx n h2)

theorem ORel.keeps {o : MO} {u : Option HO} (x : Keeps ρ ρ' H H') (h : ORel C ρ H o u) : ORel C ρ' H' o u := by
  cases o with
  | lst xs => obtain ⟨vs, e, r, z⟩ := h; exact ⟨vs, e, RelL.keeps x _ _ r, z⟩
  | dic ks xs => obtain ⟨vs, e, r, z⟩ := h; exact ⟨vs, e, RelL.keeps x _ _ r, z⟩
  | dead => exact h.elim
theorem ORel.ext {o : MO} {u : Option HO} (x : Ext ρ ρ' H H') (h : ORel C ρ H o u) : ORel C ρ' H' o u := h.keeps x.keeps

/-- the frame's values -/
structure EnvRel (C : Ctx) (ρ : Rho) (H : Hp) (env : Env) (σ : L2.St) : Prop where
  len : env.length = σ.length
  at_ : ∀ (i : Nat) d, env[i]? = some (some d) → ∃ v, σ[i]? = some (some v) ∧ Rel C ρ H d v
theorem EnvRel.keeps {env : Env} {σ : L2.St} (x : Keeps ρ ρ' H H') (h : EnvRel C ρ H env σ) : EnvRel C ρ' H' env σ :=
  ⟨h.len, fun i d e => let ⟨v, e1, r⟩ := h.at_ i d e; ⟨v, e1, Rel.keeps x _ _ r⟩⟩
theorem EnvRel.ext {env : Env} {σ : L2.St} (x : Ext ρ ρ' H H') (h : EnvRel C ρ H env σ) : EnvRel C ρ' H' env σ := h.keeps x.keeps
theorem EnvRel.set {env : Env} {σ : L2.St} {d : D} {v : V} (h : EnvRel C ρ H env σ) (i : Nat) (r : Rel C ρ H d v) : EnvRel C ρ H (env.set i (some d)) (σ.set i (some v)) := by
  refine ⟨by simp [h.len], fun j e q => ?_⟩
  by_cases hj : i = j
  · subst hj
    by_cases hi : i < env.length
    · rw [List.getElem?_set_self hi] at q
      cases q
      exact ⟨v, List.getElem?_set_self (by rw [← h.len]; exact hi), r⟩
    · rw [List.getElem?_eq_none (by simpa using hi)] at q; cases q
  · rw [List.getElem?_set_ne hj] at q ⊢
    exact h.at_ j e q
/-- slots forgotten on both sides -/
theorem EnvRel.forget {env : Env} {σ : L2.St} (h : EnvRel C ρ H env σ) (i : Nat) : EnvRel C ρ H (env.set i none) (σ.set i none) := by
  refine ⟨by simp [h.len], fun j e q => ?_⟩
  by_cases hj : i = j
  · subst hj
    by_cases hi : i < env.length
    · rw [List.getElem?_set_self hi] at q; cases q
    · rw [List.getElem?_eq_none (by simpa using hi)] at q; cases q
  · rw [List.getElem?_set_ne hj] at q ⊢
    exact h.at_ j e q
end
end EV


/-! EvB: what is wanted behind an evaluation; the heap's steps. -/
namespace EV
open PySem PySem.Spec PyProof.Rows L2

abbrev RhoT := Rho
/-- an error's fields -/
def XRel (C : Ctx) (ρ : RhoT) (H : Hp) (x : Exn) (dd : Option Addr) : Prop :=
  ∃ a vs, dd = some a ∧ H a = some (.xd vs) ∧ vs.map (·.1) = x.fs.map (·.1) ∧ RelL C ρ H (x.fs.map (·.2)) (vs.map (·.2))
/-- what is wanted behind an evaluation -/
def PostX {α β : Type} (C : Ctx) (R : RhoT → Hp → α → β → Prop) (ρ : RhoT) (H : Hp) (W : Value → Option Addr → Hp → Prop) (Q : β → Hp → Prop) : Res α → Prop
  | .ok d hd' => ∀ ρ' H' v, Ext ρ ρ' H H' → SimH C ρ' H' hd' → R ρ' H' d v → Q v H'
  | .exc x hd' => ∀ ρ' H' dd, Ext ρ ρ' H H' → SimH C ρ' H' hd' → XRel C ρ' H' x dd → W (.ref (C.ca x.cls)) dd H'
  | .bad => False
section
variable {α β γ δ : Type} {C : Ctx} {R : RhoT → Hp → α → β → Prop} {R1 : RhoT → Hp → γ → δ → Prop} {ρ ρ' : RhoT} {H H' : Hp} {hd hd' : Hd} {W : Value → Option Addr → Hp → Prop} {Q : β → Hp → Prop}
theorem PostX.ext {r : Res α} (x : Ext ρ ρ' H H') (p : PostX C R ρ H W Q r) : PostX C R ρ' H' W Q r := by
  cases r with
  | ok d h => exact fun ρ2 H2 v y => p ρ2 H2 v (x.trans y)
  | exc d h => exact fun ρ2 H2 v y => p ρ2 H2 v (x.trans y)
  | bad => exact p
theorem PostX.imp {r : Res α} {W' : Value → Option Addr → Hp → Prop} {Q' : β → Hp → Prop} (p : PostX C R ρ H W Q r) (hQ : ∀ v H, Q v H → Q' v H) (hW : ∀ c d H, W c d H → W' c d H) : PostX C R ρ H W' Q' r := by
  cases r with
  | ok d h => exact fun ρ2 H2 v y s r => hQ _ _ (p ρ2 H2 v y s r)
  | exc d h => exact fun ρ2 H2 v y s r => hW _ _ _ (p ρ2 H2 v y s r)
  | bad => exact p
/-- the first of two -/
theorem PostX.bind {r : Res γ} {f : γ → Hd → Res α} (p : PostX C R ρ H W Q (r.bind f)) :
    PostX C R1 ρ H W (fun v H1 => ∃ ρ1 hd1 d, Ext ρ ρ1 H H1 ∧ SimH C ρ1 H1 hd1 ∧ R1 ρ1 H1 d v ∧ PostX C R ρ1 H1 W Q (f d hd1)) r := by
  cases r with
  | ok d h => exact fun ρ2 H2 v y s r => ⟨ρ2, h, d, y, s, r, PostX.ext y p⟩
  | exc d h => exact p
  | bad => exact p

/-! ### the heap's steps -/
theorem ORel.some_of {o : MO} {u : Option HO} (h : ORel C ρ H o u) : u ≠ none := by
  intro e
  cases o with
  | lst xs => obtain ⟨vs, z, _⟩ := h; rw [e] at z; cases z
  | dic ks xs => obtain ⟨vs, z, _⟩ := h; rw [e] at z; cases z
  | dead => exact h
theorem SimH.unm {p : Addr} (s : SimH C ρ H hd) (hp : H p = none) : Unm ρ p := by
  refine ⟨fun n e => ?_, fun e => s.hidS p e hp⟩
  obtain ⟨o, _, q⟩ := s.at_ n p e
  exact q.some_of hp
theorem Ext.upd_new {p : Addr} {o : HO} (hp : H p = none) : Ext ρ ρ H (upd H p o) where
  le := Nat.le_refl _
  old := fun _ _ => .inl rfl
  new := fun n a h e => by rw [List.getElem?_eq_none h] at e; cases e
  keep := fun a u e _ => by rw [upd_ne (ne_of_none e hp)]; exact e
  dom := fun a e => by
    by_cases h : a = p
    · rw [h]; exact hp
    · rw [upd_ne h] at e; exact e
  hid := rfl
theorem upd_some {p a : Addr} {o : HO} (h : H a ≠ none) : upd H p o a ≠ none := by
  by_cases q : a = p
  · rw [q, upd_same]; exact fun z => nomatch z
  · rw [upd_ne q]; exact h
theorem SimH.upd_new {p : Addr} {o : HO} (s : SimH C ρ H hd) (hp : H p = none) : SimH C ρ (upd H p o) hd where
  len := s.len
  inj := s.inj
  live := s.live
  at_ := fun n a e => by
    obtain ⟨u, h1, h2⟩ := s.at_ n a e
    have ne : a ≠ p := fun z => (s.unm hp).1 n (z ▸ e)
    exact ⟨u, h1, by rw [upd_ne ne]; exact h2.ext (Ext.upd_new hp)⟩
  hidS := fun a ha => upd_some (s.hidS a ha)
  apart := s.apart
theorem rel_tup {xs : List D} {vs : List V} {p : Addr} (s : SimH C ρ H hd) (hp : H p = none) (r : RelL C ρ H xs vs) (z : xs.length ≤ sizeLine) : Rel C ρ (upd H p (.tup vs)) (.tup xs) (.ref p) := by
  simp only [Rel]
  exact ⟨p, vs, rfl, .inl ⟨.inl upd_same, s.unm hp⟩, RelL.ext (Ext.upd_new hp) _ _ r, z⟩
theorem rel_lst {xs : List D} {vs : List V} {p : Addr} (s : SimH C ρ H hd) (hp : H p = none) (r : RelL C ρ H xs vs) (z : xs.length ≤ sizeLine) : Rel C ρ (upd H p (.lst vs)) (.lst xs) (.ref p) := by
  simp only [Rel]
  exact ⟨p, vs, rfl, ⟨upd_same, s.unm hp⟩, RelL.ext (Ext.upd_new hp) _ _ r, z⟩
theorem get_snoc {l : List (Option Addr)} {x : Option Addr} {n : Nat} {y : Option Addr} (e : (l ++ [x])[n]? = some y) : l[n]? = some y ∨ (n = l.length ∧ y = x) := by
  by_cases h : n < l.length
  · rw [List.getElem?_append_left h] at e; exact .inl e
  · rw [List.getElem?_append_right (Nat.le_of_not_lt h)] at e
    have hz : n - l.length = 0 := by
      have := (List.getElem?_eq_some_iff.mp e).1
      simp at this; omega
    rw [hz] at e
    simp at e
    exact .inr ⟨by omega, e.symm⟩
abbrev Rho.push (ρ : Rho) (p : Addr) : Rho := ⟨ρ.r ++ [some p], ρ.hid⟩
theorem Ext.push {p : Addr} {o : HO} (hp : H p = none) : Ext ρ (ρ.push p) H (upd H p o) where
  le := by simp
  old := fun n h => .inl (List.getElem?_append_left h)
  new := fun n a h e => by
    rcases get_snoc e with z | ⟨_, z⟩
    · rw [List.getElem?_eq_none h] at z; cases z
    · cases z; exact hp
  keep := fun a u e _ => by rw [upd_ne (ne_of_none e hp)]; exact e
  dom := (Ext.upd_new (ρ := ρ) hp).dom
  hid := rfl
theorem SimH.pushO {p : Addr} {o : MO} {w : HO} (s : SimH C ρ H hd) (hp : H p = none) (r : ORel C ρ H o (some w)) : SimH C (ρ.push p) (upd H p w) (hd ++ [o]) where
  len := by simp [s.len]
  inj := fun m n a h1 h2 => by
    rcases get_snoc h1 with z1 | ⟨z1, z1'⟩ <;> rcases get_snoc h2 with z2 | ⟨z2, z2'⟩
    · exact s.inj m n a z1 z2
    · cases z2'; exact ((s.unm hp).1 m z1).elim
    · cases z1'; exact ((s.unm hp).1 n z2).elim
    · omega
  at_ := fun n a e => by
    rcases get_snoc e with z | ⟨z, z'⟩
    · obtain ⟨u, h1, h2⟩ := s.at_ n a z
      have ne : a ≠ p := fun q => (s.unm hp).1 n (q ▸ z)
      exact ⟨u, by rw [List.getElem?_append_left (List.getElem?_eq_some_iff.mp h1).1]; exact h1, by rw [upd_ne ne]; exact h2.ext (Ext.push hp)⟩
    · cases z'
      exact ⟨o, by rw [z, s.len]; simp, by rw [upd_same]; exact r.ext (Ext.push hp)⟩
  live := fun n o e h => by
    rcases get_snoc h with z | ⟨_, z⟩
    · have hn : n < hd.length := by rw [← s.len]; exact (List.getElem?_eq_some_iff.mp z).1
      rw [List.getElem?_append_left hn] at e
      exact s.live n o e z
    · cases z
  hidS := fun a ha => upd_some (s.hidS a ha)
  apart := fun n a e ha => by
    rcases get_snoc e with z | ⟨_, z⟩
    · exact s.apart n a z ha
    · cases z; exact s.hidS p ha hp
theorem SimH.push {p : Addr} {xs : List D} {vs : List V} (s : SimH C ρ H hd) (hp : H p = none) (r : RelL C ρ H xs vs) (hz : xs.length ≤ sizeLine) : SimH C (ρ.push p) (upd H p (.lst vs)) (hd ++ [.lst xs]) :=
  s.pushO hp ⟨vs, rfl, r, hz⟩
theorem rel_new (s : SimH C ρ H hd) {p : Addr} {H' : Hp} : Rel C (ρ.push p) H' (.ref hd.length) (.ref p) := by
  simp only [Rel]
  exact ⟨p, rfl, .inl (by rw [← s.len]; simp)⟩
theorem Ext.store {n : Nat} {a : Addr} {o : HO} {u : HO} (h : ρ.r[n]? = some (some a)) (ha : H a = some u) : Ext ρ ρ H (upd H a o) where
  le := Nat.le_refl _
  old := fun _ _ => .inl rfl
  new := fun n a h e => by rw [List.getElem?_eq_none h] at e; cases e
  keep := fun b u e f => by
    have ne : b ≠ a := fun z => f n (by rw [z]; exact h)
    rw [upd_ne ne]; exact e
  dom := fun b e => by
    by_cases q : b = a
    · rw [q, upd_same] at e; cases e
    · rw [upd_ne q] at e; exact e
  hid := rfl
theorem SimH.storeO {n : Nat} {a : Addr} {o : MO} {w u : HO} (s : SimH C ρ H hd) (h : ρ.r[n]? = some (some a)) (ha : H a = some u) (r : ORel C ρ H o (some w)) : SimH C ρ (upd H a w) (hd.set n o) where
  len := by simp [s.len]
  inj := s.inj
  at_ := fun m b e => by
    obtain ⟨w, h1, h2⟩ := s.at_ m b e
    by_cases q : n = m
    · subst q
      rw [h] at e; cases e
      exact ⟨o, List.getElem?_set_self (List.getElem?_eq_some_iff.mp h1).1, by rw [upd_same]; exact r.ext (Ext.store h ha)⟩
    · have ne : b ≠ a := fun z => q (s.inj n m a h (z ▸ e))
      exact ⟨w, by rw [List.getElem?_set_ne q]; exact h1, by rw [upd_ne ne]; exact h2.ext (Ext.store h ha)⟩
  live := fun m o e z => by
    by_cases q : n = m
    · subst q; rw [h] at z; cases z
    · rw [List.getElem?_set_ne q] at e; exact s.live m o e z
  hidS := fun a ha => upd_some (s.hidS a ha)
  apart := s.apart
theorem SimH.store {n : Nat} {a : Addr} {xs : List D} {vs : List V} {u : HO} (s : SimH C ρ H hd) (h : ρ.r[n]? = some (some a)) (ha : H a = some u) (r : RelL C ρ H xs vs) (hz : xs.length ≤ sizeLine) : SimH C ρ (upd H a (.lst vs)) (hd.set n (.lst xs)) :=
  s.storeO h ha ⟨vs, rfl, r, hz⟩
abbrev Rho.drop (ρ : Rho) (n : Nat) : Rho := ⟨ρ.r.set n none, ρ.hid⟩
theorem drop_some {n m : Nat} {a : Addr} (h : (ρ.drop n).r[m]? = some (some a)) : n ≠ m ∧ ρ.r[m]? = some (some a) := by
  by_cases q : n = m
  · subst q
    have h' : (ρ.r.set n none)[n]? = some (some a) := h
    by_cases hn : n < ρ.r.length
    · rw [List.getElem?_set_self hn] at h'; cases h'
    · rw [List.getElem?_eq_none (by simpa using hn)] at h'; cases h'
  · exact ⟨q, by have h' : (ρ.r.set n none)[m]? = some (some a) := h; rw [List.getElem?_set_ne q] at h'; exact h'⟩
theorem Ext.freeze {n : Nat} : Ext ρ (ρ.drop n) H H where
  le := by simp
  old := fun m hm => by
    by_cases q : n = m
    · subst q; exact .inr (by show (ρ.r.set n none)[n]? = _; rw [List.getElem?_set_self hm])
    · exact .inl (by show (ρ.r.set n none)[m]? = _; rw [List.getElem?_set_ne q])
  new := fun m a hm e => by
    have : m < (ρ.r.set n none).length := (List.getElem?_eq_some_iff.mp e).1
    simp at this; omega
  keep := fun a o e _ => e
  dom := fun a e => e
  hid := rfl
theorem SimH.freeze {n : Nat} (s : SimH C ρ H hd) : SimH C (ρ.drop n) H (hd.set n .dead) where
  len := by simp [s.len]
  inj := fun m k a h1 h2 => s.inj m k a (drop_some h1).2 (drop_some h2).2
  at_ := fun m a h => by
    obtain ⟨q, h⟩ := drop_some h
    obtain ⟨o, h1, h2⟩ := s.at_ m a h
    exact ⟨o, by rw [List.getElem?_set_ne q]; exact h1, h2.ext Ext.freeze⟩
  live := fun m o e h => by
    by_cases q : n = m
    · subst q
      by_cases hn : n < hd.length
      · rw [List.getElem?_set_self hn] at e; cases e; rfl
      · rw [List.getElem?_eq_none (by simpa using hn)] at e; cases e
    · have h' : (ρ.r.set n none)[m]? = some none := h
      rw [List.getElem?_set_ne q] at e h'; exact s.live m o e h'
  hidS := s.hidS
  apart := fun m a h => s.apart m a (drop_some h).2
theorem SimH.unm_drop {n : Nat} {a : Addr} (s : SimH C ρ H hd) (h : ρ.r[n]? = some (some a)) : Unm (ρ.drop n) a :=
  ⟨fun m e => (drop_some e).1 (s.inj n m a h (drop_some e).2), s.apart n a h⟩

/-! ### a list in the making, out of sight -/
abbrev Rho.hide (ρ : Rho) (p : Addr) : Rho := ⟨ρ.r, p :: ρ.hid⟩
theorem Keeps.hide {p : Addr} {o : HO} (hp : H p = none) : Keeps ρ (ρ.hide p) H (upd H p o) :=
  ⟨fun a u h f => ⟨by rw [upd_ne (ne_of_none h hp)]; exact h, f.1, fun z => by
    rcases List.mem_cons.mp z with z | z
    · exact ne_of_none h hp z
    · exact f.2 z⟩, fun _ _ => .inl rfl⟩
theorem Keeps.unhide {p : Addr} : Keeps (ρ.hide p) ρ H H := ⟨fun a u h f => ⟨h, f.1, fun z => f.2 (List.mem_cons_of_mem _ z)⟩, fun _ _ => .inl rfl⟩
theorem Keeps.grow {p : Addr} {o : HO} : Keeps (ρ.hide p) (ρ.hide p) H (upd H p o) :=
  ⟨fun a u h f => ⟨by rw [upd_ne (fun z => f.2 (by rw [z]; exact List.mem_cons_self))]; exact h, f⟩, fun _ _ => .inl rfl⟩
theorem SimH.hide {p : Addr} {o : HO} (s : SimH C ρ H hd) (hp : H p = none) : SimH C (ρ.hide p) (upd H p o) hd where
  len := s.len
  inj := s.inj
  live := s.live
  at_ := fun n a e => by
    obtain ⟨u, h1, h2⟩ := s.at_ n a e
    have ne : a ≠ p := fun z => (s.unm hp).1 n (z ▸ e)
    exact ⟨u, h1, by rw [upd_ne ne]; exact h2.keeps (Keeps.hide hp)⟩
  hidS := fun a ha => by
    rcases List.mem_cons.mp ha with z | z
    · rw [z, upd_same]; exact fun q => nomatch q
    · exact upd_some (s.hidS a z)
  apart := fun n a e z => by
    rcases List.mem_cons.mp z with z | z
    · exact (s.unm hp).1 n (z ▸ e)
    · exact s.apart n a e z
theorem SimH.grow {p : Addr} {o : HO} (s : SimH C (ρ.hide p) H hd) : SimH C (ρ.hide p) (upd H p o) hd where
  len := s.len
  inj := s.inj
  live := s.live
  at_ := fun n a e => by
    obtain ⟨u, h1, h2⟩ := s.at_ n a e
    have ne : a ≠ p := fun z => s.apart n a e (by rw [z]; exact List.mem_cons_self)
    exact ⟨u, h1, by rw [upd_ne ne]; exact h2.keeps Keeps.grow⟩
  hidS := fun a ha => upd_some (s.hidS a ha)
  apart := s.apart
theorem SimH.unhide {p : Addr} (s : SimH C (ρ.hide p) H hd) : SimH C ρ H hd where
  len := s.len
  inj := s.inj
  live := s.live
  at_ := fun n a e => let ⟨u, h1, h2⟩ := s.at_ n a e; ⟨u, h1, h2.keeps Keeps.unhide⟩
  hidS := fun a ha => s.hidS a (List.mem_cons_of_mem _ ha)
  apart := fun n a e z => s.apart n a e (List.mem_cons_of_mem _ z)
/-- a list that was made out of sight is a new object that changes -/
theorem SimH.show_ {p : Addr} {xs : List D} {vs : List V} (s : SimH C (ρ.hide p) H hd) (hu : p ∉ ρ.hid) (hr : Unr ρ p) (h : H p = some (.lst vs)) (r : RelL C (ρ.hide p) H xs vs) (hz : xs.length ≤ sizeLine) : SimH C (ρ.push p) H (hd ++ [.lst xs]) where
  len := by simp [s.len]
  inj := fun m n a h1 h2 => by
    rcases get_snoc h1 with z1 | ⟨z1, z1'⟩ <;> rcases get_snoc h2 with z2 | ⟨z2, z2'⟩
    · exact s.inj m n a z1 z2
    · cases z2'; exact (hr m z1).elim
    · cases z1'; exact (hr n z2).elim
    · omega
  at_ := fun n a e => by
    have kp : Keeps (ρ.hide p) (ρ.push p) H H := ⟨fun a u h f => ⟨h, fun n e => by
      rcases get_snoc e with z | ⟨_, z⟩
      · exact f.1 n z
      · cases z; exact f.2 List.mem_cons_self, fun z => f.2 (List.mem_cons_of_mem _ z)⟩, fun n h => .inl (List.getElem?_append_left h)⟩
    rcases get_snoc e with z | ⟨z, z'⟩
    · obtain ⟨u, h1, h2⟩ := s.at_ n a z
      exact ⟨u, by rw [List.getElem?_append_left (List.getElem?_eq_some_iff.mp h1).1]; exact h1, h2.keeps kp⟩
    · cases z'
      exact ⟨.lst xs, by rw [z]; show (hd ++ [MO.lst xs])[ρ.r.length]? = _; rw [show ρ.r.length = hd.length from s.len]; simp, vs, h, RelL.keeps kp _ _ r, hz⟩
  live := fun n o e h => by
    rcases get_snoc h with z | ⟨_, z⟩
    · have hn : n < hd.length := by rw [← s.len]; exact (List.getElem?_eq_some_iff.mp z).1
      rw [List.getElem?_append_left hn] at e
      exact s.live n o e z
    · cases z
  hidS := fun a ha => s.hidS a (List.mem_cons_of_mem _ ha)
  apart := fun n a e ha => by
    rcases get_snoc e with z | ⟨_, z⟩
    · exact s.apart n a z (List.mem_cons_of_mem _ ha)
    · cases z; exact hu ha
/-- the list, the tuple that a value is -/
def lstOf (d : D) (h : Hd) : Option (List D) := match d with
  | .lst xs => some xs
  | .ref n => match h[n]? with
    | some (.lst xs) => some xs
    | _ => none
  | _ => none
def seqOf (d : D) (h : Hd) : Option (List D) := match d with
  | .tup xs => some xs
  | .scr ns => some (ns.map D.int)
  | d => lstOf d h
theorem SimH.lst_at {n : Nat} {a : Addr} {xs : List D} (s : SimH C ρ H hd) (h : hd[n]? = some (.lst xs)) (f : ρ.r[n]? = some (some a) ∨ ρ.r[n]? = some none) : ρ.r[n]? = some (some a) ∧ ∃ vs, H a = some (.lst vs) ∧ RelL C ρ H xs vs ∧ xs.length ≤ sizeLine := by
  rcases f with f | f
  · obtain ⟨o, h1, h2⟩ := s.at_ n a f
    rw [h] at h1; cases h1
    exact ⟨f, h2⟩
  · have := s.live n _ h f
    cases this
theorem lst_of {d : D} {v : V} {xs : List D} (s : SimH C ρ H hd) (r : Rel C ρ H d v) (e : lstOf d hd = some xs) : ∃ a vs, v = .ref a ∧ H a = some (.lst vs) ∧ RelL C ρ H xs vs ∧ xs.length ≤ sizeLine := by
  cases d with
  | lst ys =>
    simp only [lstOf, Option.some.injEq] at e; subst e
    simp only [Rel] at r
    obtain ⟨a, vs, e, f, q⟩ := r
    exact ⟨a, vs, e, f.1, q⟩
  | ref n =>
    simp only [Rel] at r
    obtain ⟨a, e1, f⟩ := r
    simp only [lstOf] at e
    split at e
    · rename_i ys h
      cases e
      obtain ⟨_, vs, h2, h3⟩ := s.lst_at h f
      exact ⟨a, vs, e1, h2, h3⟩
    · cases e
  | _ => cases e
theorem tup_of {v : V} {xs : List D} (r : Rel C ρ H (.tup xs) v) : ∃ a vs, v = .ref a ∧ SqT C.K H a vs ∧ RelL C ρ H xs vs ∧ xs.length ≤ sizeLine := by
  simp only [Rel] at r
  obtain ⟨a, vs, e, f, q⟩ := r
  exact ⟨a, vs, e, f.sq, q⟩
theorem relL_ints : ∀ {ns : List Int}, RelL C ρ H (ns.map D.int) (ns.map V.int)
  | [] => RelL.nil
  | n :: ns => RelL.cons (by simp only [Rel]) relL_ints
theorem scr_of {v : V} {ns : List Int} (r : Rel C ρ H (.scr ns) v) : ∃ a, v = .ref a ∧ SqL C.K H a (ns.map V.int) ∧ ns.length ≤ sizeLine := by
  simp only [Rel] at r
  obtain ⟨a, e, f, q⟩ := r
  exact ⟨a, e, f.sq, q⟩
theorem seqOf_cases {d : D} {xs : List D} (e : seqOf d hd = some xs) : d = .tup xs ∨ (∃ ns, d = .scr ns ∧ xs = ns.map D.int) ∨ lstOf d hd = some xs := by
  cases d with
  | tup ys => simp only [seqOf, Option.some.injEq] at e; subst e; exact .inl rfl
  | scr ys => simp only [seqOf, Option.some.injEq] at e; subst e; exact .inr (.inl ⟨ys, rfl, rfl⟩)
  | lst ys => exact .inr (.inr e)
  | ref n => exact .inr (.inr e)
  | _ => cases e
theorem seq_of {d : D} {v : V} {xs : List D} (s : SimH C ρ H hd) (r : Rel C ρ H d v) (e : seqOf d hd = some xs) : ∃ a vs, v = .ref a ∧ (SqL C.K H a vs ∨ SqT C.K H a vs) ∧ RelL C ρ H xs vs ∧ xs.length ≤ sizeLine := by
  rcases seqOf_cases e with rfl | ⟨ns, rfl, rfl⟩ | e
  · obtain ⟨a, vs, e, f, q⟩ := tup_of r; exact ⟨a, vs, e, .inr f, q⟩
  · obtain ⟨a, e, f, z⟩ := scr_of r; exact ⟨a, _, e, .inl f, relL_ints, by simpa using z⟩
  · obtain ⟨a, vs, e, f, q⟩ := lst_of s r e; exact ⟨a, vs, e, .inl (.of f), q⟩
end
end EV


/-! EvC: expressions, tests, argument lists: the evaluator's combinators and that they tell the truth. -/
namespace EV
open PySem PySem.Spec PyProof.Rows L2

def tE (C : Ctx) (W : WX) (m : M D) : TE := fun σ H Q => ∃ ρ env hd, EnvRel C ρ H env σ ∧ SimH C ρ H hd ∧ PostX C (Rel C) ρ H (fun c d H' => W c d σ H') Q (m env hd)
def tT (C : Ctx) (W : WX) (m : M Bool) : TT := fun σ H Q => ∃ ρ env hd, EnvRel C ρ H env σ ∧ SimH C ρ H hd ∧ PostX C (fun _ _ b b' => b' = b) ρ H (fun c d H' => W c d σ H') Q (m env hd)
def tL (C : Ctx) (W : WX) (m : M (List D)) : TA := fun σ H Q => ∃ ρ env hd, EnvRel C ρ H env σ ∧ SimH C ρ H hd ∧ PostX C (RelL C) ρ H (fun c d H' => W c d σ H') Q (m env hd)

theorem weakE {X : Cx} {e : Expr} {t t' : TE} (h : PE X e t) (w : ∀ σ H Q, t' σ H Q → t σ H Q) : PE X e t' := ⟨fun pins s σ H Q I q => h.run pins s σ H Q I (w σ H Q q)⟩
theorem weakT {X : Cx} {e : Expr} {t t' : TT} (h : PT X e t) (w : ∀ σ H Q, t' σ H Q → t σ H Q) : PT X e t' := ⟨fun pins s σ H Q I q => h.run pins s σ H Q I (w σ H Q q)⟩
theorem weakW {X : Cx} {e : Expr} {t t' : TT} (h : PW X e t) (w : ∀ σ H Q, t' σ H Q → t σ H Q) : PW X e t' := ⟨fun wh pins s σ H Q I q => h.run wh pins s σ H Q I (w σ H Q q)⟩
theorem weakA {X : Cx} {es : List Expr} {t t' : TA} (h : PA X es t) (w : ∀ σ H Q, t' σ H Q → t σ H Q) : PA X es t' := ⟨fun pos pins s σ H Q I q => h.run pos pins s σ H Q I (w σ H Q q)⟩

section
variable {C : Ctx} {W : WX} {ρ : RhoT} {H : Hp} {hd : Hd} {env : Env} {σ : L2.St} {α β : Type} {R : RhoT → Hp → α → β → Prop} {Q : β → Hp → Prop}
/-- a part is evaluated, the rest goes on -/
theorem seqE {m : M D} {f : D → Hd → Res α} {Q' : VK} (er : EnvRel C ρ H env σ) (sh : SimH C ρ H hd) (p : PostX C R ρ H (fun c d H' => W c d σ H') Q ((m env hd).bind f))
    (k : ∀ v H1 ρ1 hd1 d, Ext ρ ρ1 H H1 → EnvRel C ρ1 H1 env σ → SimH C ρ1 H1 hd1 → Rel C ρ1 H1 d v → PostX C R ρ1 H1 (fun c d H' => W c d σ H') Q (f d hd1) → Q' v H1) : tE C W m σ H Q' :=
  ⟨ρ, env, hd, er, sh, (PostX.bind (R1 := Rel C) p).imp (fun v H1 ⟨ρ1, hd1, d, x, s, r, q⟩ => k v H1 ρ1 hd1 d x (er.ext x) s r q) fun _ _ _ z => z⟩
theorem seqT {m : M Bool} {f : Bool → Hd → Res α} {Q' : Bool → Hp → Prop} (er : EnvRel C ρ H env σ) (sh : SimH C ρ H hd) (p : PostX C R ρ H (fun c d H' => W c d σ H') Q ((m env hd).bind f))
    (k : ∀ b H1 ρ1 hd1, Ext ρ ρ1 H H1 → EnvRel C ρ1 H1 env σ → SimH C ρ1 H1 hd1 → PostX C R ρ1 H1 (fun c d H' => W c d σ H') Q (f b hd1) → Q' b H1) : tT C W m σ H Q' :=
  ⟨ρ, env, hd, er, sh, (PostX.bind (R1 := fun _ _ b b' => b' = b) p).imp (fun v H1 ⟨ρ1, hd1, d, x, s, r, q⟩ => by subst r; exact k v H1 ρ1 hd1 x (er.ext x) s q) fun _ _ _ z => z⟩
theorem seqL {m : M (List D)} {f : List D → Hd → Res α} {Q' : List V → Hp → Prop} (er : EnvRel C ρ H env σ) (sh : SimH C ρ H hd) (p : PostX C R ρ H (fun c d H' => W c d σ H') Q ((m env hd).bind f))
    (k : ∀ v H1 ρ1 hd1 d, Ext ρ ρ1 H H1 → EnvRel C ρ1 H1 env σ → SimH C ρ1 H1 hd1 → RelL C ρ1 H1 d v → PostX C R ρ1 H1 (fun c d H' => W c d σ H') Q (f d hd1) → Q' v H1) : tL C W m σ H Q' :=
  ⟨ρ, env, hd, er, sh, (PostX.bind (R1 := RelL C) p).imp (fun v H1 ⟨ρ1, hd1, d, x, s, r, q⟩ => k v H1 ρ1 hd1 d x (er.ext x) s r q) fun _ _ _ z => z⟩
theorem PostX.here {W' : Value → Option Addr → Hp → Prop} {d : α} {v : β} (p : PostX C R ρ H W' Q (.ok d hd)) (sh : SimH C ρ H hd) (r : R ρ H d v) : Q v H := p ρ H v Ext.refl sh r
end

/-! ### names and constants -/
def mvar (i : Nat) : M D := fun env h => match env[i]? with
  | some (some d) => .ok d h
  | _ => .bad
def mc (d : D) : M D := fun _ h => .ok d h
section
variable {X : Cx} {C : Ctx} {W : WX} {pos : Pos}
theorem ev_var {i : Nat} {x : Str} (h : PE X (.Name x pos) (tVar i)) : PE X (.Name x pos) (tE C W (mvar i)) := weakE h fun σ H Q ⟨ρ, env, hd, er, sh, p⟩ => by
  unfold mvar at p
  split at p
  · rename_i d e
    obtain ⟨v, e1, r⟩ := er.at_ i d e
    exact ⟨v, e1, p.here sh r⟩
  · exact p.elim
/-- a constant: its value stands in every heap -/
theorem ev_const {e : Expr} {d : D} {v : V} (h : PE X e (tC v)) (hr : ∀ ρ H, Rel C ρ H d v) : PE X e (tE C W (mc d)) := weakE h fun σ H Q ⟨ρ, env, hd, er, sh, p⟩ => p.here sh (hr ρ H)
end

/-! ### operators by values -/
/-- what an operator gives: a value, or a new list of these items -/
inductive OV where
  | v (d : D) | new (xs : List D)
def PostO (C : Ctx) (ρ : RhoT) (H : Hp) (hd : Hd) (Q : VK) : Option OV → Prop
  | none => False
  | some (.v d) => ∀ H' v, Ext ρ ρ H H' → SimH C ρ H' hd → Rel C ρ H' d v → Q v H'
  | some (.new xs) => ∀ p vs, xs.length ≤ sizeLine → H p = none → RelL C ρ H xs vs → Q (.ref p) (upd H p (.lst vs))
/-- m: a list that will be changed -/
def fin (m : Bool) (r : Option OV) (h : Hd) : Res D := match r with
  | none => .bad
  | some (.v d) => .ok d h
  | some (.new xs) => if m then .ok (.ref h.length) (h ++ [.lst xs]) else .ok (.lst xs) h
theorem PostX.fin {C : Ctx} {ρ : RhoT} {H : Hp} {hd : Hd} {Q : VK} {W' : Value → Option Addr → Hp → Prop} {m : Bool} {r : Option OV} (sh : SimH C ρ H hd) (p : PostX C (Rel C) ρ H W' Q (fin m r hd)) : PostO C ρ H hd Q r := by
  cases r with
  | none => exact p
  | some o =>
    cases o with
    | v d => exact fun H' v x s r => p ρ H' v x s r
    | new xs =>
      intro a vs hz hp rl
      cases m with
      | true => exact p _ _ _ (Ext.push hp) (sh.push hp rl hz) (rel_new sh)
      | false => exact p _ _ _ (Ext.upd_new hp) (sh.upd_new hp) (rel_lst sh hp rl hz)
theorem PostO.v {C : Ctx} {ρ : RhoT} {H : Hp} {hd : Hd} {Q : VK} {d : D} {v : V} (p : PostO C ρ H hd Q (some (.v d))) (sh : SimH C ρ H hd) (r : Rel C ρ H d v) : Q v H := p H v Ext.refl sh r

abbrev Op1 := D → Hd → Option OV
abbrev Op2 := D → D → Hd → Option OV
abbrev OpN := List D → Hd → Option OV
def rO1 (C : Ctx) (f : Op1) : V → Hp → VK → Prop := fun x H Q => ∃ ρ hd dx, SimH C ρ H hd ∧ Rel C ρ H dx x ∧ PostO C ρ H hd Q (f dx hd)
def rO2 (C : Ctx) (f : Op2) : R2 := fun x y H Q => ∃ ρ hd dx dy, SimH C ρ H hd ∧ Rel C ρ H dx x ∧ Rel C ρ H dy y ∧ PostO C ρ H hd Q (f dx dy hd)
def rON (C : Ctx) (f : OpN) : List V → Hp → VK → Prop := fun xs H Q => ∃ ρ hd ds, SimH C ρ H hd ∧ RelL C ρ H ds xs ∧ PostO C ρ H hd Q (f ds hd)

def mop1 (m : Bool) (f : Op1) (a : M D) : M D := fun env h => (a env h).bind fun x h1 => fin m (f x h1) h1
def mop2 (m : Bool) (f : Op2) (a b : M D) : M D := fun env h => (a env h).bind fun x h1 => (b env h1).bind fun y h2 => fin m (f x y h2) h2
section
variable {X : Cx} {C : Ctx} {W : WX} {pos : Pos} {a b c : Expr} {ma mb mc' : M D} {m : Bool}
theorem seq_op1 {f : Op1} {σ : L2.St} {H : Hp} {Q : VK} (h : tE C W (mop1 m f ma) σ H Q) : tE C W ma σ H fun x H1 => rO1 C f x H1 Q := by
  obtain ⟨ρ, env, hd, er, sh, p⟩ := h
  exact seqE er sh p fun v H1 ρ1 hd1 d x er1 sh1 r1 p1 => ⟨ρ1, hd1, d, sh1, r1, p1.fin sh1⟩
theorem seq_op2 {f : Op2} {σ : L2.St} {H : Hp} {Q : VK} (h : tE C W (mop2 m f ma mb) σ H Q) : tE C W ma σ H fun x H1 => tE C W mb σ H1 fun y H2 => rO2 C f x y H2 Q := by
  obtain ⟨ρ, env, hd, er, sh, p⟩ := h
  exact seqE er sh p fun v H1 ρ1 hd1 d x er1 sh1 r1 p1 => seqE er1 sh1 p1 fun v2 H2 ρ2 hd2 d2 x2 er2 sh2 r2 p2 => ⟨ρ2, hd2, d, d2, sh2, Rel.ext x2 _ _ r1, r2, p2.fin sh2⟩
theorem ev_bin {op : Operator} {f : Op2} (ho : OpR X (binaryOp op) (rO2 C f)) (ha : PE X a (tE C W ma)) (hb : PE X b (tE C W mb)) : PE X (.BinOp a op b pos) (tE C W (mop2 m f ma mb)) :=
  weakE (pe_op ho ha hb) fun _ _ _ h => seq_op2 h
theorem ev_cmp {op : CmpOp} {f : Op2} (ho : OpR X (compareOp op) (rO2 C f)) (ha : PE X a (tE C W ma)) (hb : PE X b (tE C W mb)) (hm : behindInMarks op b = false) : PE X (.Compare a [op] [b] pos) (tE C W (mop2 m f ma mb)) :=
  weakE (pe_cmpR ho ha hb hm) fun _ _ _ h => seq_op2 h
theorem ev_un {op : UnaryOp} {f : Op1} (ho : UnR X (unaryOp op) (rO1 C f)) (ha : PE X a (tE C W ma)) : PE X (.UnaryOp op a pos) (tE C W (mop1 m f ma)) :=
  weakE (pe_un ho ha) fun _ _ _ h => seq_op1 h
theorem ev_ix {f : Op2} (ho : IxR X (rO2 C f)) (ha : PE X a (tE C W ma)) (hb : PE X b (tE C W mb)) (hs : PlainIx b) : PE X (.Subscript a b pos) (tE C W (mop2 m f ma mb)) :=
  weakE (pe_ix ho ha hb hs) fun _ _ _ h => seq_op2 h
end
end EV


/-! EvD: the operators. -/
namespace EV
open PySem PySem.Spec PyProof.Rows L2

/-! ### data as the library has it -/
def keyPy : Key → PyData
  | .inl i => .int i
  | .inr x => .str x
mutual
def toPy : D → Option PyData
  | .non => some .none
  | .bl b => some (.bool b)
  | .int i => some (.int i)
  | .str s => some (.str s)
  | .tup xs => (toPyL xs).map .tuple
  | .lst xs => (toPyL xs).map .list
  | .dic ks xs => (toPyL xs).map fun ps => .dict ((ks.map keyPy).zip ps)
  | .scr ns => some (.list (ns.map .int))
  | _ => none
def toPyL : List D → Option (List PyData)
  | [] => some []
  | d :: ds => match toPy d with
    | none => none
    | some p => match toPyL ds with
      | none => none
      | some ps => some (p :: ps)
end
/-- data, or a list that changes, of data -/
def toPyT (h : Hd) : D → Option PyData
  | .ref n => match h[n]? with
    | some (.lst xs) => (toPyL xs).map .list
    | some (.dic ks xs) => (toPyL xs).map fun ps => .dict ((ks.map keyPy).zip ps)
    | _ => none
  | d => toPy d


def intsOf : List D → Option (List Int)
  | [] => some []
  | .int i :: ds => (intsOf ds).map (i :: ·)
  | _ => none
def blsOf : List D → Option (List Bool)
  | [] => some []
  | .bl b :: ds => (blsOf ds).map (b :: ·)
  | _ => none
def strsOf : List D → Option (List Str)
  | [] => some []
  | .str b :: ds => (strsOf ds).map (b :: ·)
  | _ => none
def flatD : D → Bool
  | .non => true | .bl _ => true | .int _ => true | .str _ => true | _ => false
/-- == of flat values -/
def eqF : D → D → Bool
  | .non, .non => true
  | .bl a, .bl b => a == b
  | .bl a, .int b => (if a then 1 else 0) == b
  | .int a, .bl b => a == (if b then 1 else 0)
  | .int a, .int b => a == b
  | .str a, .str b => a == b
  | _, _ => false
def truth (d : D) (h : Hd) : Option Bool := match d with
  | .non => some false
  | .bl b => some b
  | .int i => some (i != 0)
  | .str s => some ((s.length : Int) != 0)
  | d => (seqOf d h).map fun xs => !xs.isEmpty

/-! ### the operators -/
def oAdd : Op2
  | .int i, .int j, _ => some (.v (.int (i + j)))
  | .str a, .str b, _ => if a.length + b.length ≤ sizeLine then some (.v (.str (a ++ b))) else none
  | .tup a, .tup b, _ => if a.length + b.length ≤ sizeLine then some (.v (.tup (a ++ b))) else none
  | x, y, h => match lstOf x h, lstOf y h with
    | some a, some b => if a.length + b.length ≤ sizeLine then some (.new (a ++ b)) else none
    | _, _ => none
def oSub : Op2
  | .int i, .int j, _ => some (.v (.int (i - j)))
  | _, _, _ => none
def oMul : Op2
  | .int i, .int j, _ => if (-(2 ^ 64) < i ∧ i < 2 ^ 64) ∨ (-(2 ^ 64) < j ∧ j < 2 ^ 64) then some (.v (.int (i * j))) else none
  | .tup a, .int k, _ => if a ≠ [] ∧ 2 ≤ k ∧ k ≤ 1000 ∧ a.length ≤ 1000 then some (.v (.tup (List.replicate k.toNat a).flatten)) else if (a = [] ∨ k = 1) ∧ -1000 ≤ k ∧ k ≤ 1000 then some (.v (.tup a)) else none
  | x, .int k, h => match lstOf x h with
    | some a => if -(2 ^ 63) ≤ k ∧ k < 2 ^ 63 ∧ a.length * k.toNat ≤ sizeLine then some (.new (List.replicate k.toNat a).flatten) else none
    | none => none
  | _, _, _ => none
def oMod : Op2
  | .int i, .int j, _ => if 0 < j then some (.v (.int (i % j))) else none
  | _, _, _ => none
def oFdiv : Op2
  | .int i, .int j, _ => if 0 < j ∧ j < 1073741824 then some (.v (.int (i / j))) else none
  | _, _, _ => none
def oPow : Op2
  | .int i, .int j, _ => if 0 ≤ j ∧ j ≤ 1000000 ∧ i.natAbs < 2 ^ 64 then some (.v (.int (i ^ j.toNat))) else none
  | _, _, _ => none
def oCmp (p : Int → Int → Bool) : Op2
  | .int i, .int j, _ => some (.v (.bl (p i j)))
  | _, _, _ => none
abbrev oLt : Op2 := oCmp fun i j => decide (i < j)
abbrev oLe : Op2 := oCmp fun i j => decide (i ≤ j)
abbrev oGt : Op2 := oCmp fun i j => decide (j < i)
abbrev oGe : Op2 := oCmp fun i j => decide (j ≤ i)
/-- == by values: scalars of one kind, None, a text and a number; else data at any depth -/
def eqv (x y : D) (h : Hd) : Option Bool := match x, y with
  | .str a, .str b => some (a == b)
  | .int a, .int b => some (a == b)
  | .bl a, .bl b => some (a == b)
  | x, y => match toPyT h x, toPyT h y with
    | some p, some q => if SeqAt.shaped p = true ∧ SeqAt.shaped q = true then some (PyData.eqv p q) else none
    | _, _ => none
def oEq : Op2 := fun x y h => (eqv x y h).map fun b => .v (.bl b)
def oNe : Op2 := fun x y h => (eqv x y h).map fun b => .v (.bl !b)
def isIn (x y : D) (h : Hd) : Option Bool := match x, y with
  | .str a, .str b => some (!(Builtin.Str.occurrences b a 0 b.length 1).isEmpty)
  | x, y => match seqOf y h with
    | some ys => if flatD x = true ∧ ys.all flatD = true then some (ys.any fun y => eqF y x) else none
    | none => none
def oIn : Op2 := fun x y h => (isIn x y h).map fun b => .v (.bl b)
def oNotIn : Op2 := fun x y h => (isIn x y h).map fun b => .v (.bl !b)
def isNon : D → Bool
  | .non => true
  | _ => false
def oIsN : Op2 := fun x y _ => if isNon y then some (.v (.bl (isNon x))) else none
def oIsNot : Op2 := fun x y _ => if isNon y then some (.v (.bl (!isNon x))) else none
def oNeg : Op1
  | .int i, _ => some (.v (.int (-i)))
  | _, _ => none
def oIx : Op2
  | .str s, .int i, _ => (atI s.cps.toList i).map fun c => .v (.str ⟨#[c]⟩)
  | x, .int i, h => match seqOf x h with
    | some xs => (atI xs i).map .v
    | none => none
  | _, _, _ => none

section
variable {X : Cx} {C : Ctx} {ρ : RhoT} {H : Hp} {hd : Hd} {pins : List (Addr × Obj)} {σ : L2.St} {s : Shared}
theorem rel_int {i : Int} : Rel C ρ H (.int i) (.int i) := by simp only [Rel]
theorem rel_bl {i : Bool} : Rel C ρ H (.bl i) (.bl i) := by simp only [Rel]
theorem rel_non : Rel C ρ H .non .non := by simp only [Rel]
theorem rel_str {x : Str} (h : x.length ≤ sizeLine) : Rel C ρ H (.str x) (.str x) := by unfold Rel; exact ⟨rfl, h⟩
theorem of_int {i : Int} {v : V} (r : Rel C ρ H (.int i) v) : v = .int i := by simpa only [Rel] using r
theorem of_bl {i : Bool} {v : V} (r : Rel C ρ H (.bl i) v) : v = .bl i := by simpa only [Rel] using r
theorem of_non {v : V} (r : Rel C ρ H .non v) : v = .non := by simpa only [Rel] using r
theorem of_str {x : Str} {v : V} (r : Rel C ρ H (.str x) v) : v = .str x ∧ x.length ≤ sizeLine := by simpa only [Rel] using r
theorem len_app (a b : Str) : (a ++ b).length = a.length + b.length := by
  show (a.cps ++ b.cps).size = a.cps.size + b.cps.size
  exact Array.size_append
theorem relL_flatten {xs : List D} {vs : List V} (r : RelL C ρ H xs vs) : ∀ k : Nat, RelL C ρ H (List.replicate k xs).flatten (List.replicate k vs).flatten
  | 0 => by simp [RelL.nil]
  | k + 1 => by
    simp only [List.replicate_succ, List.flatten_cons]
    exact r.append (relL_flatten r k)

theorem ops_add (hK : X.K = C.K) : OpR X (binaryOp .Add) (rO2 C oAdd) := by
  intro pins s σ H x y v u Q I rx ry ⟨ρ, hd, dx, dy, sh, r1, r2, p⟩
  unfold oAdd at p
  split at p
  · cases of_int r1; cases of_int r2
    exact op_add pins s σ H _ _ v u Q I rx ry ⟨_, _, rfl, rfl, p.v sh rel_int⟩
  · split at p
    · rename_i hz
      cases (of_str r1).1; cases (of_str r2).1
      exact op_add_str pins s σ H _ _ v u Q I rx ry ⟨_, _, rfl, rfl, hz, p.v sh (rel_str (by rw [len_app]; exact hz))⟩
    · exact p.elim
  · rename_i a b
    split at p
    · rename_i hz
      obtain ⟨a1, v1, rfl, t1, q1, z1⟩ := tup_of r1
      obtain ⟨a2, v2, rfl, t2, q2, z2⟩ := tup_of r2
      have l1 := q1.length
      have l2 := q2.length
      refine op_catA pins s σ H _ _ v u Q I rx ry ⟨a1, a2, v1, v2, rfl, rfl, hK ▸ t1, hK ▸ t2, by omega, fun e => ?_, fun e1 e2 => ?_, fun e1 e2 p' hp => ?_⟩
      · subst e
        have : a = [] := by simpa using l1
        subst this
        exact p H _ Ext.refl sh (by simpa using r2)
      · subst e2
        have : b = [] := by simpa using l2
        subst this
        exact p H _ Ext.refl sh (by simpa using r1)
      · exact p _ _ (Ext.upd_new hp) (sh.upd_new hp) (rel_tup sh hp (q1.append q2) (by simpa using hz))
    · exact p.elim
  · split at p
    · rename_i a b e1 e2
      split at p
      · rename_i hz
        obtain ⟨a1, v1, rfl, t1, q1, z1⟩ := lst_of sh r1 e1
        obtain ⟨a2, v2, rfl, t2, q2, z2⟩ := lst_of sh r2 e2
        have l1 := q1.length
        have l2 := q2.length
        exact op_cat pins s σ H _ _ v u Q I rx ry ⟨a1, a2, v1, v2, rfl, rfl, t1, t2, by omega, fun p' hp => p _ _ (by simpa using hz) hp (q1.append q2)⟩
      · exact p.elim
    · exact p.elim
theorem ops_sub : OpR X (binaryOp .Sub) (rO2 C oSub) := by
  intro pins s σ H x y v u Q I rx ry ⟨ρ, hd, dx, dy, sh, r1, r2, p⟩
  unfold oSub at p
  split at p
  · cases of_int r1; cases of_int r2
    exact op_sub pins s σ H _ _ v u Q I rx ry ⟨_, _, rfl, rfl, p.v sh rel_int⟩
  · exact p.elim
theorem ops_mod : OpR X (binaryOp .Mod) (rO2 C oMod) := by
  intro pins s σ H x y v u Q I rx ry ⟨ρ, hd, dx, dy, sh, r1, r2, p⟩
  unfold oMod at p
  split at p
  · split at p
    · rename_i hj
      cases of_int r1; cases of_int r2
      exact op_mod pins s σ H _ _ v u Q I rx ry ⟨_, _, rfl, rfl, hj, p.v sh rel_int⟩
    · exact p.elim
  · exact p.elim
theorem ops_fdiv : OpR X (binaryOp .FloorDiv) (rO2 C oFdiv) := by
  intro pins s σ H x y v u Q I rx ry ⟨ρ, hd, dx, dy, sh, r1, r2, p⟩
  unfold oFdiv at p
  split at p
  · split at p
    · rename_i hj
      cases of_int r1; cases of_int r2
      exact op_fdiv pins s σ H _ _ v u Q I rx ry ⟨_, _, rfl, rfl, hj, p.v sh rel_int⟩
    · exact p.elim
  · exact p.elim
theorem ops_pow : OpR X (binaryOp .Pow) (rO2 C oPow) := by
  intro pins s σ H x y v u Q I rx ry ⟨ρ, hd, dx, dy, sh, r1, r2, p⟩
  unfold oPow at p
  split at p
  · split at p
    · rename_i hj
      cases of_int r1; cases of_int r2
      exact op_pow pins s σ H _ _ v u Q I rx ry ⟨_, _, rfl, rfl, hj, p.v sh rel_int⟩
    · exact p.elim
  · exact p.elim
theorem tuple_same (l : Addr) (items : Array Value) (n : Nat) (dd : Option Addr) (sl : Array (Option Value)) (x : Int) (u : Tok) (c0 : (decide (x < -(2 ^ 63)) || decide (x ≥ 2 ^ 63)) = false) (c1 : (items.isEmpty || x == 1) = true) :
    Meets (Builtin.«tuple.__mul__» ⟨[.ref l, .int x u], []⟩) (fun _ R s => s.heap.get? l = some { cls := .type "tuple", dict := dd, data := .seq items n, slots := sl } ∧ R (.ok (.ret (Value.ref l))) s) :=
  .of_wp fun prog w A R s h => by
    obtain ⟨hp, g, d, tk, os⟩ := s
    obtain ⟨at_, h⟩ := h
    have f1 := AutoSeq1.idx_int
    wp_walk using wpAny_loadPart' at_
    repeat (first
      | (refine wpAny_ite_false (decide_eq_false (by rw [c0]; exact Bool.false_ne_true)) ?_; wp_walk using wpAny_loadPart' at_)
      | (refine wpAny_ite_true (decide_eq_true c1) ?_; wp_walk using wpAny_loadPart' at_))
    exact ⟨_, rfl, h⟩
theorem op_sameT : OpR X (binaryOp .Mult) (fun x y H Q => ∃ l k xs, x = .ref l ∧ y = .int k ∧ SqT X.K H l xs ∧ (xs = [] ∨ k = 1) ∧ -1000 ≤ k ∧ k ≤ 1000 ∧ Q x H) := by
  intro pins s σ H x y v u Q I rx ry h
  obtain ⟨l, k, xs, rfl, rfl, hT, h1, h2, h3, q⟩ := h
  cases rx
  obtain ⟨t, rfl⟩ := ry
  obtain ⟨its, r, ⟨⟨cls, dd, data, sl⟩, ho, hc, n, hd⟩, hs⟩ := I.tuple hT
  simp only at hc hd
  subst hc hd
  have c0 : (decide (k < -(2 ^ 63)) || decide (k ≥ 2 ^ 63)) = false := by
    rw [decide_eq_false (by omega), decide_eq_false (by omega)] <;> rfl
  have c1 : (its.toArray.isEmpty || k == 1) = true := by
    rcases h1 with h1 | h1
    · subst h1
      cases r
      rfl
    · subst h1
      simp
  exact wpAny_binaryOp_repeat_ref (T := "tuple") (U := "int") (by decide) ⟨_, ho, rfl⟩ (fun s' => typeIs_int s' k t) noFill_tuple_mul F.fills_int_mul F.slot_int_rmul repeat_tuple F.slot_int_index.lookup
    (call_meets F.slot_int_rmul (typeIs_int s k t) F.entry_int_rmul (F.args_int_rmul_2 _ _) (int_rmul_tuple k t l its.toArray n dd sl)
      ⟨ho, rfl, ⟨_, ho, rfl⟩, call_meets F.slot_tuple_mul ⟨_, ho, rfl⟩ F.entry_tuple_mul (F.args_tuple_mul_2 _ _) (tuple_same l its.toArray n dd sl k t c0 c1) ⟨ho, .ref l, H, I, rfl, q⟩⟩)
theorem ops_mul (hK : X.K = C.K) : OpR X (binaryOp .Mult) (rO2 C oMul) := by
  intro pins s σ H x y v u Q I rx ry ⟨ρ, hd, dx, dy, sh, r1, r2, p⟩
  unfold oMul at p
  split at p
  · split at p
    · rename_i hj
      cases of_int r1; cases of_int r2
      exact op_mul pins s σ H _ _ v u Q I rx ry ⟨_, _, rfl, rfl, hj, p.v sh rel_int⟩
    · exact p.elim
  · rename_i a k
    split at p
    · rename_i hz
      obtain ⟨hne, h2, h3, h4⟩ := hz
      obtain ⟨a1, v1, rfl, t1, q1, z1⟩ := tup_of r1
      cases of_int r2
      have l1 := q1.length
      refine op_repT pins s σ H _ _ v u Q I rx ry ⟨a1, k, v1, rfl, rfl, hK ▸ t1, fun e => hne (by subst e; simpa using l1), h2, h3, by omega, fun p' hp => ?_⟩
      refine p _ _ (Ext.upd_new hp) (sh.upd_new hp) (rel_tup sh hp (relL_flatten q1 _) ?_)
      rw [List.length_flatten, List.map_replicate, List.sum_replicate_nat]
      have hk : k.toNat ≤ 1000 := by omega
      have := Nat.mul_le_mul hk h4
      rw [sizeLine_eq]; omega
    · split at p
      · rename_i hz
        obtain ⟨a1, v1, rfl, t1, q1, z1⟩ := tup_of r1
        cases of_int r2
        have l1 := q1.length
        exact op_sameT pins s σ H _ _ v u Q I rx ry ⟨a1, k, v1, rfl, rfl, hK ▸ t1, hz.1.imp (fun e => by subst e; simpa [RelL.nil_iff] using q1) id, hz.2.1, hz.2.2, p.v sh r1⟩
      · exact p.elim
  · split at p
    · rename_i a e1
      split at p
      · rename_i hz
        obtain ⟨h1, h2, h3⟩ := hz
        obtain ⟨a1, v1, rfl, t1, q1, z1⟩ := lst_of sh r1 e1
        cases of_int r2
        have l1 := q1.length
        refine op_rep pins s σ H _ _ v u Q I rx ry ⟨a1, _, v1, rfl, rfl, t1, h1, h2, by rw [← l1]; exact h3, fun p' hp => p _ _ ?_ hp (relL_flatten q1 _)⟩
        rw [List.length_flatten, List.map_replicate, List.sum_replicate_nat, Nat.mul_comm]
        exact h3
      · exact p.elim
    · exact p.elim
  · exact p.elim
theorem ops_cmp {op : CmpOp} {q : Int → Int → Bool} (h : OpR X (compareOp op) (rI0 fun i j => .bl (q i j))) : OpR X (compareOp op) (rO2 C (oCmp q)) := by
  intro pins s σ H x y v u Q I rx ry ⟨ρ, hd, dx, dy, sh, r1, r2, p⟩
  unfold oCmp at p
  split at p
  · cases of_int r1; cases of_int r2
    exact h pins s σ H _ _ v u Q I rx ry ⟨_, _, rfl, rfl, p.v sh rel_bl⟩
  · exact p.elim
theorem uns_neg : UnR X (unaryOp .USub) (rO1 C oNeg) := by
  intro pins s σ H x v Q I rx ⟨ρ, hd, dx, sh, r1, p⟩
  unfold oNeg at p
  split at p
  · cases of_int r1
    exact un_neg pins s σ H _ v Q I rx ⟨_, rfl, p.v sh rel_int⟩
  · exact p.elim
end
end EV


/-! EvR: data in a heap whose dicts are not the run's own table of modules; their repr. -/
namespace EV
open PySem PySem.Spec PyProof.Rows L2
mutual
inductive Rds (h : Heap) : Value → PyData → Prop
  | none : Rds h .none .none
  | bool (b : Bool) : Rds h (.bool b) (.bool b)
  | int (i : Int) (t : Nat) : Rds h (.int i t) (.int i)
  | str (x : Str) (t : Nat) : Rds h (.str x t) (.str x)
  | list {a : Addr} {o : Obj} {vs : Array Value} {n : Nat} {xs : List PyData} : h.get? a = some o → o.cls = .type "list" → o.data = .seq vs n → RdsAll h vs.toList xs → Rds h (.ref a) (.list xs)
  | tuple {a : Addr} {o : Obj} {vs : Array Value} {n : Nat} {xs : List PyData} : h.get? a = some o → o.cls = .type "tuple" → o.data = .seq vs n → RdsAll h vs.toList xs → Rds h (.ref a) (.tuple xs)
  | dict {a : Addr} {o : Obj} {es : Array DictEntry} {n : Nat} {kvs : List (PyData × PyData)} : h.get? a = some o → o.cls = .type "dict" → o.data = .dict es n → (a == sysModules) = false → RdsAll h (es.toList.map (·.key)) (kvs.map (·.1)) →
      RdsAll h (es.toList.map (·.val)) (kvs.map (·.2)) → Rds h (.ref a) (.dict kvs)
inductive RdsAll (h : Heap) : List Value → List PyData → Prop
  | nil : RdsAll h [] []
  | cons {v : Value} {vs : List Value} {d : PyData} {ds : List PyData} : Rds h v d → RdsAll h vs ds → RdsAll h (v :: vs) (d :: ds)
end
mutual
theorem Rds.reads {h : Heap} : ∀ {v : Value} {d : PyData}, Rds h v d → ∃ as, Reads h v d as
  | _, _, .none => ⟨_, .none⟩
  | _, _, .bool b => ⟨_, .bool b⟩
  | _, _, .int i t => ⟨_, .int i t⟩
  | _, _, .str i t => ⟨_, .str i t⟩
  | _, _, .list h1 h2 h3 h4 => let ⟨_, r⟩ := RdsAll.reads h4; ⟨_, .list h1 h2 h3 r⟩
  | _, _, .tuple h1 h2 h3 h4 => let ⟨_, r⟩ := RdsAll.reads h4; ⟨_, .tuple h1 h2 h3 r⟩
  | _, _, .dict h1 h2 h3 _ h4 h5 => let ⟨_, r⟩ := RdsAll.reads h4; let ⟨_, q⟩ := RdsAll.reads h5; ⟨_, .dict h1 h2 h3 r q⟩
theorem RdsAll.reads {h : Heap} : ∀ {v : List Value} {d : List PyData}, RdsAll h v d → ∃ as, ReadsAll h v d as
  | _, _, .nil => ⟨_, .nil⟩
  | _, _, .cons h1 h2 => let ⟨_, r⟩ := Rds.reads h1; let ⟨_, q⟩ := RdsAll.reads h2; ⟨_, .cons r q⟩
end
section
variable {prog : Program} {w : World} {h₀ : Heap}
open PySem
mutual
theorem Rds.reprK : ∀ {v : Value} {d : PyData}, Rds h₀ v d → d.showable = true → d.shown.length ≤ sizeLine → ∃ bs, ReadAtMost h₀ d.depth bs ∧ ReprK prog w bs h₀ d.depth v d.shown
  | _, _, .none, _, _ => ⟨[], (fun _ h => nomatch h), by simp only [PyData.shown]; exact .of_is ReprIs.none _ _ _⟩
  | _, _, .bool b, _, _ => ⟨[], (fun _ h => nomatch h), by simp only [PyData.shown]; exact .of_is (ReprIs.bool b) _ _ _⟩
  | _, _, .int i t, hs, _ => ⟨[], (fun _ h => nomatch h), by simp only [PyData.shown]; exact .of_is (ReprIs.int t (by simpa [PyData.showable] using hs)) _ _ _⟩
  | _, _, .str x t, _, hz => ⟨[], (fun _ h => nomatch h), by simp only [PyData.shown]; exact .of_is (ReprIs.str x t (by simpa only [PyData.shown] using hz)) _ _ _⟩
  | _, _, .list (a := a) (vs := vs) (xs := xs) h1 h2 h3 h4, hs, hz => by
    have hz' : (listText (PyData.shownAll xs)).length ≤ sizeLine := by simpa only [PyData.shown] using hz
    obtain ⟨bs, hb, hk⟩ := RdsAll.reprK h4 (by simpa [PyData.showable] using hs) (fun t ht => Nat.le_trans (listText_mem_le ht) hz')
    obtain ⟨_, r⟩ := Rds.reads (.list h1 h2 h3 h4)
    have hna : a ∉ bs := not_mem_of_deeper r (by simp only [PyData.depth]; omega) hb
    refine ⟨a :: bs, ReadAtMost.cons r (by simp only [PyData.depth]; omega) hb, ?_⟩
    simp only [PyData.depth, PyData.shown]
    obtain ⟨l⟩ := vs
    cases l with
    | nil =>
      have h4' : RdsAll h₀ [] xs := h4
      cases h4'
      simp only [PyData.shownAll, listText_nil]
      exact ReprK.listEmpty h1 h2 h3
    | cons x l => exact ReprK.list h1 h2 h3 hna (by simpa using hk.length_eq) (fun i y e => hk.item i y (by simpa using e))
  | _, _, .tuple (a := a) (xs := xs) h1 h2 h3 h4, hs, hz => by
    have hz' : (tupleText (PyData.shownAll xs)).length ≤ sizeLine := by simpa only [PyData.shown] using hz
    obtain ⟨bs, hb, hk⟩ := RdsAll.reprK h4 (by simpa [PyData.showable] using hs) (fun t ht => Nat.le_trans (tupleText_mem_le ht) hz')
    obtain ⟨_, r⟩ := Rds.reads (.tuple h1 h2 h3 h4)
    have hna : a ∉ bs := not_mem_of_deeper r (by simp only [PyData.depth]; omega) hb
    refine ⟨a :: bs, ReadAtMost.cons r (by simp only [PyData.depth]; omega) hb, ?_⟩
    simp only [PyData.depth, PyData.shown]
    exact ReprK.tuple h1 h2 h3 hna hk
  | _, _, .dict (a := a) (es := es) (kvs := kvs) h1 h2 h3 hsys h4 h5, hs, hz => by
    have hz' : (dictText (PyData.shownKv kvs)).length ≤ sizeLine := by simpa only [PyData.shown] using hz
    obtain ⟨hs1, hs2⟩ := PyData.showableKv_split kvs (by simpa [PyData.showable] using hs)
    obtain ⟨b1, hb1, k1⟩ := RdsAll.reprK h4 hs1 (fun t ht => let ⟨p, hp, hl⟩ := PyData.shownKv_key_le kvs t ht; Nat.le_trans hl (Nat.le_trans (dictText_mem_le hp) hz'))
    obtain ⟨b2, hb2, k2⟩ := RdsAll.reprK h5 hs2 (fun t ht => let ⟨p, hp, hl⟩ := PyData.shownKv_val_le kvs t ht; Nat.le_trans hl (Nat.le_trans (dictText_mem_le hp) hz'))
    obtain ⟨_, r⟩ := Rds.reads (.dict h1 h2 h3 hsys h4 h5)
    have hb : ReadAtMost h₀ (PyData.depthKv kvs) (b1 ++ b2) := (hb1.mono (PyData.depthAll_keys_le kvs)).append (hb2.mono (PyData.depthAll_vals_le kvs))
    have hna : a ∉ b1 ++ b2 := not_mem_of_deeper r (by simp only [PyData.depth]; omega) hb
    refine ⟨a :: (b1 ++ b2), ReadAtMost.cons r (by simp only [PyData.depth]; omega) hb, ?_⟩
    simp only [PyData.depth, PyData.shown, PyData.shownKv_eq]
    exact ReprK.dict h1 h2 h3 hsys hna (ReprEntriesK.of_two es.toList _ _
      (k1.more_le (fun b hb => List.mem_append_left _ hb) (PyData.depthAll_keys_le kvs)) (k2.more_le (fun b hb => List.mem_append_right _ hb) (PyData.depthAll_vals_le kvs)))
theorem RdsAll.reprK : ∀ {vs : List Value} {ds : List PyData}, RdsAll h₀ vs ds → PyData.showableAll ds = true → (∀ t ∈ PyData.shownAll ds, t.length ≤ sizeLine) →
    ∃ bs, ReadAtMost h₀ (PyData.depthAll ds) bs ∧ ReprAllK prog w bs h₀ (PyData.depthAll ds) vs (PyData.shownAll ds)
  | _, _, .nil, _, _ => ⟨[], (fun _ h => nomatch h), by simp only [PyData.shownAll]; exact .nil⟩
  | _, _, .cons (d := d) (ds := ds) r rs, hs, hz => by
    have hs' : d.showable = true ∧ PyData.showableAll ds = true := by simpa [PyData.showableAll] using hs
    obtain ⟨b1, hb1, k1⟩ := Rds.reprK r hs'.1 (hz _ (by simp only [PyData.shownAll]; exact List.mem_cons_self ..))
    obtain ⟨b2, hb2, k2⟩ := RdsAll.reprK rs hs'.2 (fun t ht => hz t (by simp only [PyData.shownAll]; exact List.mem_cons_of_mem _ ht))
    refine ⟨b1 ++ b2, ?_, ?_⟩
    · intro b hm
      simp only [PyData.depthAll]
      rcases List.mem_append.mp hm with hm | hm
      · obtain ⟨d', as', r', hd'⟩ := hb1 b hm
        exact ⟨d', as', r', Nat.le_trans hd' (Nat.le_max_left _ _)⟩
      · obtain ⟨d', as', r', hd'⟩ := hb2 b hm
        exact ⟨d', as', r', Nat.le_trans hd' (Nat.le_max_right _ _)⟩
    · simp only [PyData.depthAll, PyData.shownAll]
      exact .cons ((k1.more fun b hb => List.mem_append_left _ hb).level_le (Nat.le_max_left _ _)) (k2.more_le (fun b hb => List.mem_append_right _ hb) (Nat.le_max_right _ _))
end
/-- repr(x) -/
theorem repr_rds {A : Around} {E : Value → Shared → Prop} {s : Shared} {Q : Value → Shared → Prop} {a : Addr} {d : PyData} (r : Rds h₀ (.ref a) d) (hs : d.showable = true) (hg : A.guards = some []) (hu : A.units + (d.depth + 1) < cLine) (hk0 : ∀ b o, h₀.get? b = some o → s.heap.get? b = some o)
    (hQ : ∀ h' u tk, (∀ b o, s.heap.get? b = some o → h'.get? b = some o) → Q (.str d.shown u) { s with heap := h', toks := tk })
    (hsz : d.shown.length ≤ sizeLine) : wpAny (model prog w) A (call (.builtin "repr") [.ref a]) Q E s := by
  have go : ∀ {T idr : String}, (∀ s : Shared, (∀ b o, h₀.get? b = some o → s.heap.get? b = some o) → s.TypeIs (.ref a) T) → SlotG T "__repr__" idr →
      (∀ (A : Around) (E : Value → Shared → Prop) (s : Shared) (Q : Value → Shared → Prop), A.guards = some [] → A.units + d.depth < cLine → (∀ b o, h₀.get? b = some o → s.heap.get? b = some o) →
    (∀ h' u tk, (∀ b o, s.heap.get? b = some o → h'.get? b = some o) → Q (.str d.shown u) { s with heap := h', toks := tk }) → wpAny (model prog w) A (call (.builtin idr) [.ref a]) Q E s) → wpAny (model prog w) A (call (.builtin "repr") [.ref a]) Q E s := fun ht sl hc =>
    call_repr_slot (by omega) (ht s hk0) sl (hc A.in1 E s _ hg (by show A.units + 1 + d.depth < cLine; omega) hk0 fun h' u tk hk => ⟨_, _, rfl, hQ h' u tk hk⟩)
  cases r with
  | list h1 h2 h3 h4 =>
    rename_i o vs n xs
    have hz' : (listText (PyData.shownAll xs)).length ≤ sizeLine := by simpa only [PyData.shown] using hsz
    obtain ⟨bs, hb, hk⟩ := RdsAll.reprK (prog := prog) (w := w) h4 (by simpa [PyData.showable] using hs) (fun t ht => Nat.le_trans (listText_mem_le ht) hz')
    obtain ⟨_, r⟩ := Rds.reads (.list h1 h2 h3 h4)
    have hna : a ∉ bs := not_mem_of_deeper r (by simp only [PyData.depth]; omega) hb
    refine go (fun s hk0 => ⟨o, hk0 _ _ h1, h2⟩) F.slot_list_repr.toG fun A E s Q hg hu hk0 hQ => ?_
    simp only [PyData.depth] at hu
    simp only [PyData.shown] at hQ
    obtain ⟨l⟩ := vs
    cases l with
    | nil =>
      have h4' : RdsAll h₀ [] xs := h4
      cases h4'
      simp only [PyData.shownAll, listText_nil] at hQ
      exact call_list_repr_empty ⟨o, hk0 _ _ h1, h2⟩ (hk0 _ _ h1) h3 (hQ s.heap _ _ fun _ _ e => e)
    | cons x l =>
      exact call_list_reprK h1 h2 h3 hna (by simpa using hk.length_eq) (fun i y e => hk.item i y (by simpa using e)) hg (fun b _ => Clear.nil b) hu hk0 hQ hz'
  | tuple h1 h2 h3 h4 =>
    rename_i o vs n xs
    have hz' : (tupleText (PyData.shownAll xs)).length ≤ sizeLine := by simpa only [PyData.shown] using hsz
    obtain ⟨bs, hb, hk⟩ := RdsAll.reprK (prog := prog) (w := w) h4 (by simpa [PyData.showable] using hs) (fun t ht => Nat.le_trans (tupleText_mem_le ht) hz')
    obtain ⟨_, r⟩ := Rds.reads (.tuple h1 h2 h3 h4)
    have hna : a ∉ bs := not_mem_of_deeper r (by simp only [PyData.depth]; omega) hb
    refine go (fun s hk0 => ⟨o, hk0 _ _ h1, h2⟩) F.slot_tuple_repr fun A E s Q hg hu hk0 hQ => ?_
    simp only [PyData.depth] at hu
    simp only [PyData.shown] at hQ
    exact call_tuple_reprK h1 h2 h3 hna hk hg (fun b _ => Clear.nil b) hu hk0 hQ hz'
  | dict h1 h2 h3 hsys h4 h5 =>
    rename_i o es n kvs
    have hz' : (dictText (PyData.shownKv kvs)).length ≤ sizeLine := by simpa only [PyData.shown] using hsz
    obtain ⟨hs1, hs2⟩ := PyData.showableKv_split kvs (by simpa [PyData.showable] using hs)
    obtain ⟨b1, hb1, k1⟩ := RdsAll.reprK (prog := prog) (w := w) h4 hs1 (fun t ht => let ⟨p, hp, hl⟩ := PyData.shownKv_key_le kvs t ht; Nat.le_trans hl (Nat.le_trans (dictText_mem_le hp) hz'))
    obtain ⟨b2, hb2, k2⟩ := RdsAll.reprK (prog := prog) (w := w) h5 hs2 (fun t ht => let ⟨p, hp, hl⟩ := PyData.shownKv_val_le kvs t ht; Nat.le_trans hl (Nat.le_trans (dictText_mem_le hp) hz'))
    have hb : ReadAtMost h₀ (PyData.depthKv kvs) (b1 ++ b2) := (hb1.mono (PyData.depthAll_keys_le kvs)).append (hb2.mono (PyData.depthAll_vals_le kvs))
    obtain ⟨_, r⟩ := Rds.reads (.dict h1 h2 h3 hsys h4 h5)
    have hna : a ∉ b1 ++ b2 := not_mem_of_deeper r (by simp only [PyData.depth]; omega) hb
    refine go (fun s hk0 => ⟨o, hk0 _ _ h1, h2⟩) F.slot_dict_repr fun A E s Q hg hu hk0 hQ => ?_
    simp only [PyData.depth] at hu
    simp only [PyData.shown, PyData.shownKv_eq] at hQ
    exact call_dict_reprK h1 h2 h3 hsys hna (ReprEntriesK.of_two es.toList _ _
      (k1.more_le (fun b hb => List.mem_append_left _ hb) (PyData.depthAll_keys_le kvs)) (k2.more_le (fun b hb => List.mem_append_right _ hb) (PyData.depthAll_vals_le kvs))) hg (fun b _ => Clear.nil b) hu hk0 hQ (by rw [← PyData.shownKv_eq]; exact hz')
end
end EV


/-! EvE: comparing, in, subscripts, slices, truth. -/
namespace EV
open PySem PySem.Spec PyProof.Rows L2
theorem toPyL_len : ∀ (ds : List D) (ps : List PyData), toPyL ds = some ps → ds.length = ps.length
  | [], _, e => by simp only [toPyL, Option.some.injEq] at e; subst e; rfl
  | d :: ds, _, e => by
    simp only [toPyL] at e
    split at e
    · cases e
    · split at e
      · cases e
      · rename_i ps e2
        cases e
        rw [List.length_cons, List.length_cons, toPyL_len ds ps e2]

section
variable {X : Cx} {C : Ctx} {ρ : RhoT} {H : Hp} {hd : Hd} {pins : List (Addr × Obj)} {σ : L2.St} {s : Shared}

theorem reads_ints {h : Heap} : ∀ {ns : List Int} {us : List Value}, Vals (ns.map V.int) us → RdsAll h us (ns.map PyData.int)
  | [], _, r => by cases r; exact .nil
  | n :: ns, _, r => by
    cases r with
    | cons r1 r2 =>
      obtain ⟨t, rfl⟩ := r1
      exact .cons (.int n t) (reads_ints r2)
theorem reads_keys {P : Program} {w : World} {h : Heap} : ∀ {ks : List Key} {vs : List V} {kvs : List (Key × Value)} {es : List DictEntry}, ks.length = vs.length → KV (ks.zip vs) kvs → Pairs (mixKind P w) es kvs → RdsAll h (es.map (·.key)) (ks.map keyPy) ∧ Vals vs (es.map (·.val))
  | [], [], _, _, _, r, q => by cases r; cases q; exact ⟨.nil, .nil⟩
  | [], _ :: _, _, _, e, _, _ => by cases e
  | _ :: _, [], _, _, e, _, _ => by cases e
  | k :: ks, v :: vs, _, _, e, r, q => by
    cases r with
    | cons r1 r2 =>
      cases q with
      | cons q1 q2 q3 =>
        obtain ⟨i1, i2⟩ := reads_keys (h := h) (by simpa using e) r2 q3
        obtain ⟨e1, e2⟩ := r1
        refine ⟨?_, .cons (by dsimp only; rw [q2]; exact e2) i2⟩
        have q1 : keyIs _ _ = true := q1
        rw [← e1] at q1
        have q1 : keyIs k _ = true := q1
        rcases keyIs_shape q1 with ⟨i, t, rfl, z⟩ | ⟨x, t, rfl, z⟩
        · exact .cons (by dsimp only; rw [z]; exact .int i t) i1
        · exact .cons (by dsimp only; rw [z]; exact .str x t) i1
mutual
theorem reads_of (hK : X.K = C.K) (I : Inv X pins σ H s) : ∀ (d : D) (p : PyData) (v : V) (u : Value), toPy d = some p → Rel C ρ H d v → RelV v u → Rds s.heap u p
  | .non, _, _, _, e, r, q => by
    simp only [toPy, Option.some.injEq] at e; subst e; cases of_non r; cases q; exact .none
  | .bl b, _, _, _, e, r, q => by
    simp only [toPy, Option.some.injEq] at e; subst e; cases of_bl r; cases q; exact .bool b
  | .int i, _, _, _, e, r, q => by
    simp only [toPy, Option.some.injEq] at e; subst e; cases of_int r; obtain ⟨t, rfl⟩ := q; exact .int i t
  | .str x, _, _, _, e, r, q => by
    simp only [toPy, Option.some.injEq] at e; subst e; cases (of_str r).1; obtain ⟨t, rfl⟩ := q; exact .str x t
  | .tup xs, _, _, _, e, r, q => by
    simp only [toPy, Option.map_eq_some_iff] at e
    obtain ⟨ps, e1, rfl⟩ := e
    obtain ⟨a, vs, rfl, t, rl, z⟩ := tup_of r
    cases q
    obtain ⟨its, rv, ⟨o, ho, hc, n, hd⟩, _⟩ := I.tuple (hK ▸ t)
    have hr := readsL_of hK I xs ps vs its e1 rl rv
    exact .tuple ho hc hd hr
  | .lst xs, _, _, _, e, r, q => by
    simp only [toPy, Option.map_eq_some_iff] at e
    obtain ⟨ps, e1, rfl⟩ := e
    simp only [Rel] at r
    obtain ⟨a, vs, rfl, ⟨t, _⟩, rl, z⟩ := r
    cases q
    obtain ⟨its, rv, ⟨o, n, ho, hc, _, hd⟩, _⟩ := I.list (SqL.of t)
    have hr := readsL_of hK I xs ps vs its e1 rl rv
    exact .list ho hc hd hr
  | .dic ks xs, _, _, _, e, r, q => by
    simp only [toPy, Option.map_eq_some_iff] at e
    obtain ⟨ps, e1, rfl⟩ := e
    simp only [Rel] at r
    obtain ⟨a, vs, rfl, ⟨t, _⟩, rl, z⟩ := r
    cases q
    obtain ⟨_, hS, kvs, kv, o, es, ep, ho, hx, hdd, _, hp, _⟩ := I.hok a _ t
    have lv := rl.length
    obtain ⟨k1, k2⟩ := reads_keys (h := s.heap) (by omega) kv hp
    have hr := readsL_of hK I xs ps vs _ e1 rl k2
    have lp : (ks.map keyPy).length = ps.length := by rw [List.length_map, z, toPyL_len xs ps e1]
    exact .dict ho hx.1 hdd hS (by rw [List.map_fst_zip (by omega)]; exact k1) (by rw [List.map_snd_zip (by omega)]; exact hr)
  | .scr ns, _, _, _, e, r, q => by
    simp only [toPy, Option.some.injEq] at e; subst e
    obtain ⟨a, rfl, t, z⟩ := scr_of r
    cases q
    obtain ⟨its, rv, ⟨o, n, ho, hc, _, hd⟩, _⟩ := I.list (hK ▸ t)
    exact .list ho hc hd (reads_ints rv)
  | .ref _, _, _, _, e, _, _ => by simp only [toPy] at e; cases e
  | .fn _, _, _, _, e, _, _ => by simp only [toPy] at e; cases e
  | .ty _, _, _, _, e, _, _ => by simp only [toPy] at e; cases e
  | .cl _, _, _, _, e, _, _ => by simp only [toPy] at e; cases e
theorem readsL_of (hK : X.K = C.K) (I : Inv X pins σ H s) : ∀ (ds : List D) (ps : List PyData) (vs : List V) (us : List Value), toPyL ds = some ps → RelL C ρ H ds vs → Vals vs us → RdsAll s.heap us ps
  | [], _, _, _, e, r, q => by
    simp only [toPyL, Option.some.injEq] at e; subst e
    rw [RelL.nil_iff] at r; subst r; cases q; exact .nil
  | d :: ds, _, _, _, e, r, q => by
    simp only [toPyL] at e
    split at e
    · cases e
    · rename_i p e1
      split at e
      · cases e
      · rename_i ps e2
        cases e
        simp only [RelL] at r
        obtain ⟨v, vs, rfl, r1, r2⟩ := r
        cases q with
        | cons q1 q2 =>
          have h1 := reads_of hK I d p v _ e1 r1 q1
          have h2 := readsL_of hK I ds ps vs _ e2 r2 q2
          exact .cons h1 h2
end
/-- .. or a list, a dict that changes -/
theorem readsT_of (hK : X.K = C.K) (I : Inv X pins σ H s) (sh : SimH C ρ H hd) {d : D} {p : PyData} {v : V} {u : Value} (e : toPyT hd d = some p) (r : Rel C ρ H d v) (q : RelV v u) : Rds s.heap u p := by
  cases d with
  | ref n =>
    simp only [toPyT] at e
    simp only [Rel] at r
    obtain ⟨a, rfl, f⟩ := r
    cases q
    split at e
    · rename_i xs h
      simp only [Option.map_eq_some_iff] at e
      obtain ⟨ps, e1, rfl⟩ := e
      obtain ⟨_, vs, t, rl, z⟩ := sh.lst_at h f
      obtain ⟨its, rv, ⟨o, n, ho, hc, _, hd⟩, _⟩ := I.list (SqL.of t)
      have hr := readsL_of hK I xs ps vs its e1 rl rv
      exact .list ho hc hd hr
    · rename_i ks xs h
      simp only [Option.map_eq_some_iff] at e
      obtain ⟨ps, e1, rfl⟩ := e
      obtain ⟨vs, t, rl, z⟩ : ∃ vs, H a = some (.dK (ks.zip vs)) ∧ RelL C ρ H xs vs ∧ ks.length = xs.length := by
        rcases f with f | f
        · obtain ⟨o, h1, h2⟩ := sh.at_ n a f
          rw [h] at h1; cases h1
          exact h2
        · cases sh.live n _ h f
      obtain ⟨_, hS, kvs, kv, o, es, ep, ho, hx, hdd, _, hp, _⟩ := I.hok a _ t
      have lv := rl.length
      obtain ⟨k1, k2⟩ := reads_keys (h := s.heap) (by omega) kv hp
      have hr := readsL_of hK I xs ps vs _ e1 rl k2
      have lp : (ks.map keyPy).length = ps.length := by rw [List.length_map, z, toPyL_len xs ps e1]
      exact .dict ho hx.1 hdd hS (by rw [List.map_fst_zip (by omega)]; exact k1) (by rw [List.map_snd_zip (by omega)]; exact hr)
    · cases e
  | _ => exact reads_of hK I _ p v u e r q

theorem ops_eqv {op : CmpOp} {g : Bool → Bool} (hs : OpR X (compareOp op) (fun x y H Q => scal x y = true ∧ Q (.bl (g (decide (x = y)))) H))
    (hd' : ∀ (pins : List (Addr × Obj)) (s : Shared) (σ : L2.St) (H : Hp) (v u : Value) (p q : PyData) (as bs : List Addr) (Q : VK), Inv X pins σ H s → Reads s.heap v p as → Reads s.heap u q bs → SeqAt.shaped p = true → SeqAt.shaped q = true → Q (.bl (g (PyData.eqv p q))) H → wpAny (model X.prog X.w) X.A (compareOp op v u) (EP X pins σ Q) X.xe s)
    (hK : X.K = C.K) : OpR X (compareOp op) (rO2 C fun x y h => (eqv x y h).map fun b => .v (.bl (g b))) := by
  intro pins s σ H x y v u Q I rx ry ⟨ρ, hd, dx, dy, sh, r1, r2, p⟩
  dsimp only at p
  unfold eqv at p
  split at p
  · cases (of_str r1).1; cases (of_str r2).1
    exact hs pins s σ H _ _ v u Q I rx ry ⟨rfl, by rw [dec_str]; exact p.v sh rel_bl⟩
  · cases of_int r1; cases of_int r2
    exact hs pins s σ H _ _ v u Q I rx ry ⟨rfl, by rw [dec_int]; exact p.v sh rel_bl⟩
  · cases of_bl r1; cases of_bl r2
    exact hs pins s σ H _ _ v u Q I rx ry ⟨rfl, by rw [dec_bl]; exact p.v sh rel_bl⟩
  · split at p
    · rename_i pp qq e1 e2
      split at p
      · rename_i hsh
        obtain ⟨as, h1⟩ := (readsT_of hK I sh e1 r1 rx).reads
        obtain ⟨bs, h2⟩ := (readsT_of hK I sh e2 r2 ry).reads
        exact hd' pins s σ H v u pp qq as bs Q I h1 h2 hsh.1 hsh.2 (p.v sh rel_bl)
      · exact p.elim
    · exact p.elim
theorem ops_eq (hK : X.K = C.K) (hu : X.A.units + 64 < cLine) : OpR X (compareOp .Eq) (rO2 C oEq) :=
  ops_eqv (g := fun b => b) op_eq (fun pins s σ H v u p q as bs Q I r1 r2 h1 h2 hq => SeqAt.compareEq_shaped r1 r2 h1 h2 hu ⟨.bl _, H, I, rfl, hq⟩) hK
theorem ops_ne (hK : X.K = C.K) (hu : X.A.units + 64 < cLine) : OpR X (compareOp .NotEq) (rO2 C oNe) :=
  ops_eqv (g := fun b => !b) op_ne (fun pins s σ H v u p q as bs Q I r1 r2 h1 h2 hq => SeqAt.compareNe_shaped r1 r2 h1 h2 hu ⟨.bl _, H, I, rfl, hq⟩) hK

theorem flat_rel {d : D} {v : V} (f : flatD d = true) (r : Rel C ρ H d v) : flatV v = true := by
  cases d with
  | non => cases of_non r; rfl
  | bl _ => cases of_bl r; rfl
  | int _ => cases of_int r; rfl
  | str _ => cases (of_str r).1; rfl
  | _ => cases f
theorem eqF_rel {d e : D} {v w : V} (f : flatD d = true) (g : flatD e = true) (r : Rel C ρ H d v) (q : Rel C ρ H e w) : eqV v w = eqF d e := by
  cases d with
  | non => cases of_non r; cases e with
    | non => cases of_non q; rfl
    | bl _ => cases of_bl q; rfl
    | int _ => cases of_int q; rfl
    | str _ => cases (of_str q).1; rfl
    | _ => cases g
  | bl _ => cases of_bl r; cases e with
    | non => cases of_non q; rfl
    | bl _ => cases of_bl q; rfl
    | int _ => cases of_int q; rfl
    | str _ => cases (of_str q).1; rfl
    | _ => cases g
  | int _ => cases of_int r; cases e with
    | non => cases of_non q; rfl
    | bl _ => cases of_bl q; rfl
    | int _ => cases of_int q; rfl
    | str _ => cases (of_str q).1; rfl
    | _ => cases g
  | str _ => cases (of_str r).1; cases e with
    | non => cases of_non q; rfl
    | bl _ => cases of_bl q; rfl
    | int _ => cases of_int q; rfl
    | str _ => cases (of_str q).1; rfl
    | _ => cases g
  | _ => cases f
theorem inL_rel {d : D} {v : V} (f : flatD d = true) (r : Rel C ρ H d v) : ∀ {ys : List D} {vs : List V}, ys.all flatD = true → RelL C ρ H ys vs → vs.all flatV = true ∧ inV v vs = ys.any fun y => eqF y d
  | [], _, _, q => by rw [RelL.nil_iff] at q; subst q; exact ⟨rfl, rfl⟩
  | y :: ys, _, g, q => by
    simp only [RelL] at q
    obtain ⟨w, vs, rfl, q1, q2⟩ := q
    simp only [List.all_cons, Bool.and_eq_true] at g
    obtain ⟨i1, i2⟩ := inL_rel f r g.2 q2
    refine ⟨by simp only [List.all_cons, flat_rel g.1 q1, i1, Bool.and_self], ?_⟩
    show (w :: vs).any (fun y => eqV y v) = _
    rw [List.any_cons, List.any_cons, eqF_rel g.1 f q1 r]
    exact congrArg _ i2
theorem ops_isIn {op : CmpOp} {g : Bool → Bool} (h1 : OpR X (compareOp op) (fun x y H Q => ∃ i j, x = .str i ∧ y = .str j ∧ Q (.bl (g (!(Builtin.Str.occurrences j i 0 j.length 1).isEmpty))) H))
    (h2 : OpR X (compareOp op) (fun x y H Q => ∃ p xs, y = .ref p ∧ (SqL X.K H p xs ∨ SqT X.K H p xs) ∧ flatV x = true ∧ xs.all flatV = true ∧ Q (.bl (g (inV x xs))) H)) (hK : X.K = C.K) :
    OpR X (compareOp op) (rO2 C fun x y h => (isIn x y h).map fun b => .v (.bl (g b))) := by
  intro pins s σ H x y v u Q I rx ry ⟨ρ, hd, dx, dy, sh, r1, r2, p⟩
  dsimp only at p
  unfold isIn at p
  split at p
  · cases (of_str r1).1; cases (of_str r2).1
    exact h1 pins s σ H _ _ v u Q I rx ry ⟨_, _, rfl, rfl, p.v sh rel_bl⟩
  · split at p
    · rename_i ys e
      split at p
      · rename_i hf
        obtain ⟨a, vs, rfl, t, rl, z⟩ := seq_of sh r2 e
        obtain ⟨f1, f2⟩ := inL_rel hf.1 r1 hf.2 rl
        exact h2 pins s σ H _ _ v u Q I rx ry ⟨a, vs, rfl, hK ▸ t, flat_rel hf.1 r1, f1, by rw [f2]; exact p.v sh rel_bl⟩
      · exact p.elim
    · exact p.elim
theorem ops_in (hK : X.K = C.K) : OpR X (compareOp .In) (rO2 C oIn) := ops_isIn (g := fun b => b) op_in_str op_in_seq hK
theorem ops_notIn (hK : X.K = C.K) : OpR X (compareOp .NotIn) (rO2 C oNotIn) := ops_isIn (g := fun b => !b) L2.op_notIn_str op_notIn_seq hK
theorem non_rel {d : D} {v : V} (r : Rel C ρ H d v) : decide (v = V.non) = isNon d := by
  cases d with
  | non => cases of_non r; rfl
  | bl _ => cases of_bl r; rfl
  | int _ => cases of_int r; rfl
  | str _ => cases (of_str r).1; rfl
  | tup _ => simp only [Rel] at r; obtain ⟨a, vs, rfl, _⟩ := r; rfl
  | lst _ => simp only [Rel] at r; obtain ⟨a, vs, rfl, _⟩ := r; rfl
  | dic _ _ => simp only [Rel] at r; obtain ⟨a, vs, rfl, _⟩ := r; rfl
  | scr _ => simp only [Rel] at r; obtain ⟨a, rfl, _⟩ := r; rfl
  | ref _ => simp only [Rel] at r; obtain ⟨a, rfl, _⟩ := r; rfl
  | fn _ => simp only [Rel] at r; subst r; rfl
  | ty _ => simp only [Rel] at r; subst r; rfl
  | cl _ => simp only [Rel] at r; subst r; rfl
theorem is_non {d : D} {v : V} (e : isNon d = true) (r : Rel C ρ H d v) : v = .non := by
  cases d with
  | non => exact of_non r
  | _ => cases e
theorem ops_is : OpR X (compareOp .Is) (rO2 C oIsN) := by
  intro pins s σ H x y v u Q I rx ry ⟨ρ, hd, dx, dy, sh, r1, r2, p⟩
  unfold oIsN at p
  split at p
  · rename_i e
    exact op_isN pins s σ H _ _ v u Q I rx ry ⟨is_non e r2, by rw [non_rel r1]; exact p.v sh rel_bl⟩
  · exact p.elim
theorem ops_isNot : OpR X (compareOp .IsNot) (rO2 C oIsNot) := by
  intro pins s σ H x y v u Q I rx ry ⟨ρ, hd, dx, dy, sh, r1, r2, p⟩
  unfold oIsNot at p
  split at p
  · rename_i e
    exact op_notN pins s σ H _ _ v u Q I rx ry ⟨is_non e r2, by rw [non_rel r1]; exact p.v sh rel_bl⟩
  · exact p.elim

/-! ### an item -/
theorem atI_rel {ds : List D} {vs : List V} {i : Int} {d : D} (rl : RelL C ρ H ds vs) (e : atI ds i = some d) : ∃ v, atI vs i = some v ∧ Rel C ρ H d v := by
  unfold atI at e ⊢
  rw [rl.length] at e
  cases hj : ixN vs.length i with
  | none => rw [hj] at e; cases e
  | some j =>
    rw [hj] at e
    exact rl.get (i := j) e
theorem ix_ok (hK : X.K = C.K) : IxR X (rO2 C oIx) := by
  intro vl sl pins s σ H x y v u Q I rx ry ⟨ρ, hd, dx, dy, sh, r1, r2, p⟩ hs
  unfold oIx at p
  split at p
  · rename_i z i
    cases (of_str r1).1; cases of_int r2
    cases e : atI z.cps.toList i with
    | none => rw [e] at p; exact p.elim
    | some c =>
      rw [e] at p
      exact ix_str vl sl pins s σ H _ _ v u Q I rx ry ⟨z, i, c, rfl, rfl, (of_str r1).2, e, p.v sh (rel_str (by show 1 ≤ sizeLine; rw [sizeLine_eq]; decide))⟩ hs
  · rename_i i _
    cases of_int r2
    split at p
    · rename_i xs e
      cases e2 : atI xs i with
      | none => rw [e2] at p; exact p.elim
      | some d =>
        rw [e2] at p
        obtain ⟨a, vs, rfl, t, rl, z⟩ := seq_of sh r1 e
        obtain ⟨w, e3, rw'⟩ := atI_rel rl e2
        rcases t with t | t
        · exact ix_list vl sl pins s σ H _ _ v u Q I rx ry ⟨a, vs, i, w, rfl, rfl, hK ▸ t, e3, p.v sh rw'⟩ hs
        · exact ix_tup vl sl pins s σ H _ _ v u Q I rx ry ⟨a, vs, i, w, rfl, rfl, hK ▸ t, e3, p.v sh rw'⟩ hs
    · exact p.elim
  · exact p.elim
/-! ### truth -/
theorem truth_rel (hK : X.K = C.K) {d : D} {v : V} {b : Bool} (sh : SimH C ρ H hd) (r : Rel C ρ H d v) (e : truth d hd = some b) : TruV X.K v H b := by
  have seqc : ∀ d, (seqOf d hd).map (fun xs => !xs.isEmpty) = some b → Rel C ρ H d v → TruV X.K v H b := fun d e r => by
    simp only [Option.map_eq_some_iff] at e
    obtain ⟨xs, e1, rfl⟩ := e
    obtain ⟨a, vs, rfl, t, rl, z⟩ := seq_of sh r e1
    have hb : (!xs.isEmpty) = !vs.isEmpty := by
      have := rl.length
      cases xs <;> cases vs <;> first | rfl | (simp at this)
    rcases t with t | t
    · exact .inl ⟨vs, hK ▸ t, hb⟩
    · exact .inr (.inl ⟨vs, hK ▸ t, hb⟩)
  cases d with
  | non => cases of_non r; exact (Option.some.inj e).symm
  | bl _ => cases of_bl r; exact (Option.some.inj e).symm
  | int _ => cases of_int r; exact (Option.some.inj e).symm
  | str _ => obtain ⟨rfl, z⟩ := of_str r; exact ⟨z, (Option.some.inj e).symm⟩
  | tup xs => exact seqc (.tup xs) e r
  | lst xs => exact seqc (.lst xs) e r
  | dic k x => exact seqc (.dic k x) e r
  | scr n => exact seqc (.scr n) e r
  | ref n => exact seqc (.ref n) e r
  | fn n => exact seqc (.fn n) e r
  | ty n => exact seqc (.ty n) e r
  | cl n => exact seqc (.cl n) e r
end
end EV


/-! EvF: argument lists, displays, and, or, not, tests, chains, calls of built-ins, slices. -/
namespace EV
open PySem PySem.Spec PyProof.Rows L2

def mnil : M (List D) := fun _ h => .ok [] h
def mcons (a : M D) (r : M (List D)) : M (List D) := fun env h => (a env h).bind fun x h1 => (r env h1).bind fun xs h2 => .ok (x :: xs) h2
def mstar (a : M D) (r : M (List D)) : M (List D) := fun env h => (a env h).bind fun x h1 => match seqOf x h1 with
  | some xs => (r env h1).bind fun ys h2 => .ok (xs ++ ys) h2
  | none => .bad
def mtup (as : M (List D)) : M D := fun env h => (as env h).bind fun xs h1 => if xs.length ≤ sizeLine then .ok (.tup xs) h1 else .bad
def mlst (m : Bool) (as : M (List D)) : M D := fun env h => (as env h).bind fun xs h1 => fin m (if xs.length ≤ sizeLine then some (.new xs) else none) h1
def mand (a b : M D) : M D := fun env h => (a env h).bind fun x h1 => match truth x h1 with
  | some true => b env h1
  | some false => .ok x h1
  | none => .bad
def mor (a b : M D) : M D := fun env h => (a env h).bind fun x h1 => match truth x h1 with
  | some true => .ok x h1
  | some false => b env h1
  | none => .bad
def mnot (a : M D) : M D := fun env h => (a env h).bind fun x h1 => match truth x h1 with
  | some b => .ok (.bl !b) h1
  | none => .bad
def mandT (a b : M Bool) : M Bool := fun env h => (a env h).bind fun c h1 => if c then b env h1 else .ok false h1
def morT (a b : M Bool) : M Bool := fun env h => (a env h).bind fun c h1 => if c then .ok true h1 else b env h1
def mnotT (a : M Bool) : M Bool := fun env h => (a env h).bind fun c h1 => .ok (!c) h1
def mtru (a : M D) : M Bool := fun env h => (a env h).bind fun x h1 => match truth x h1 with
  | some b => .ok b h1
  | none => .bad
def mbl (a : M D) : M Bool := fun env h => (a env h).bind fun x h1 => match x with
  | .bl b => .ok b h1
  | _ => .bad
def mite (c : M Bool) (a b : M D) : M D := fun env h => (c env h).bind fun k h1 => if k then a env h1 else b env h1
/-- a op b op' c -/
def mchain (f g : Op2) (a b c : M D) : M D := fun env h => (a env h).bind fun x h1 => (b env h1).bind fun y h2 => match f x y h2 with
  | some (.v (.bl true)) => (c env h2).bind fun z h3 => fin false (g y z h3) h3
  | some (.v (.bl false)) => .ok (.bl false) h2
  | _ => .bad
def mfun (m : Bool) (f : OpN) (as : M (List D)) : M D := fun env h => (as env h).bind fun xs h1 => fin m (f xs h1) h1

section
variable {X : Cx} {C : Ctx} {W : WX} {pos : Pos} {a b c e : Expr} {es rest : List Expr} {ma mb mc' : M D} {ms : M (List D)} {ta tb : M Bool}

theorem evl_nil : PA X [] (tL C W mnil) := weakA pa_nil fun σ H Q ⟨ρ, env, hd, er, sh, p⟩ => p.here sh RelL.nil
def notStar : Expr → Bool
  | .Starred _ _ => false
  | _ => true
theorem starEach_at {env : PySem.Env} (h : notStar e = true) : starEach (e :: es) env = (false, eval e env) :: starEach es env := by
  cases e <;> first | rfl | cases h
def noStars : List Expr → Bool
  | [] => true
  | e :: es => notStar e && noStars es
theorem plain_of {env : PySem.Env} : ∀ {es : List Expr}, noStars es = true → (backTo pos (starEach es env)).any (·.1) = false
  | [], _ => rfl
  | e :: es, h => by
    unfold noStars at h
    rw [Bool.and_eq_true] at h
    rw [starEach_at h.1]
    show (false || (backTo pos (starEach es env)).any (·.1)) = false
    rw [plain_of h.2]; rfl
theorem evl_cons (ha : PE X e (tE C W ma)) (hr : PA X es (tL C W ms)) (hs : notStar e = true) : PA X (e :: es) (tL C W (mcons ma ms)) :=
  weakA (pa_cons ha hr (starEach_at hs)) fun σ H Q ⟨ρ, env, hd, er, sh, p⟩ =>
    seqE er sh p fun v H1 ρ1 hd1 d x er1 sh1 r1 p1 => seqL er1 sh1 p1 fun vs H2 ρ2 hd2 ds x2 er2 sh2 r2 p2 => p2.here sh2 (RelL.cons (Rel.ext x2 _ _ r1) r2)
theorem evl_star {ps : Pos} (hK : X.K = C.K) (ha : PE X e (tE C W ma)) (hr : PA X es (tL C W ms)) : PA X (.Starred e ps :: es) (tL C W (mstar ma ms)) :=
  weakA (StX.pa_star ha hr) fun σ H Q ⟨ρ, env, hd, er, sh, p⟩ =>
    seqE er sh p fun v H1 ρ1 hd1 d x er1 sh1 r1 p1 => by
      split at p1
      · rename_i xs e1
        obtain ⟨a, vs, rfl, t, rl, z⟩ := seq_of sh1 r1 e1
        exact ⟨a, vs, rfl, hK ▸ t.symm, seqL er1 sh1 p1 fun ws H2 ρ2 hd2 ds x2 er2 sh2 r2 p2 => p2.here sh2 ((RelL.ext x2 _ _ rl).append r2)⟩
      · exact p1.elim
theorem ev_tup {k : Nat} (h : PA X es (tL C W ms)) : PE X (.Tuple es k pos) (tE C W (mtup ms)) :=
  weakE (pe_tup h) fun σ H Q ⟨ρ, env, hd, er, sh, p⟩ => seqL er sh p fun vs H1 ρ1 hd1 ds x er1 sh1 r1 p1 => by
    split at p1
    · rename_i hz
      exact ⟨by rw [← r1.length]; exact hz, fun q hq => p1 _ _ _ (Ext.upd_new hq) (sh1.upd_new hq) (rel_tup sh1 hq r1 hz)⟩
    · exact p1.elim
theorem ev_lst {m : Bool} (h : PA X es (tL C W ms)) : PE X (.List es pos) (tE C W (mlst m ms)) :=
  weakE (pe_lst h) fun σ H Q ⟨ρ, env, hd, er, sh, p⟩ => seqL er sh p fun vs H1 ρ1 hd1 ds x er1 sh1 r1 p1 => by
    split at p1
    · rename_i hz
      have q := p1.fin sh1
      exact ⟨by rw [← r1.length]; exact hz, fun a ha => q a vs hz ha r1⟩
    · exact (p1.fin sh1).elim
theorem ev_and (hK : X.K = C.K) (ha : PE X a (tE C W ma)) (hb : PE X (.BoolOp .And (b :: rest) pos) (tE C W mb)) : PE X (.BoolOp .And (a :: b :: rest) pos) (tE C W (mand ma mb)) :=
  weakE (pe_andT ha hb) fun σ H Q ⟨ρ, env, hd, er, sh, p⟩ => seqE er sh p fun v H1 ρ1 hd1 d x er1 sh1 r1 p1 => by
    split at p1
    · rename_i e
      exact ⟨true, truth_rel hK sh1 r1 e, ρ1, env, hd1, er1, sh1, p1⟩
    · rename_i e
      exact ⟨false, truth_rel hK sh1 r1 e, p1.here sh1 r1⟩
    · exact p1.elim
theorem ev_or (hK : X.K = C.K) (ha : PE X a (tE C W ma)) (hb : PE X (.BoolOp .Or (b :: rest) pos) (tE C W mb)) : PE X (.BoolOp .Or (a :: b :: rest) pos) (tE C W (mor ma mb)) :=
  weakE (pe_orT ha hb) fun σ H Q ⟨ρ, env, hd, er, sh, p⟩ => seqE er sh p fun v H1 ρ1 hd1 d x er1 sh1 r1 p1 => by
    split at p1
    · rename_i e
      exact ⟨true, truth_rel hK sh1 r1 e, p1.here sh1 r1⟩
    · rename_i e
      exact ⟨false, truth_rel hK sh1 r1 e, ρ1, env, hd1, er1, sh1, p1⟩
    · exact p1.elim
theorem ev_one {op : PySem.BoolOp} (ha : PE X a (tE C W ma)) : PE X (.BoolOp op [a] pos) (tE C W ma) := pe_one ha
theorem ev_not (hK : X.K = C.K) (ha : PE X a (tE C W ma)) : PE X (.UnaryOp .Not a pos) (tE C W (mnot ma)) :=
  weakE (pe_notT ha) fun σ H Q ⟨ρ, env, hd, er, sh, p⟩ => seqE er sh p fun v H1 ρ1 hd1 d x er1 sh1 r1 p1 => by
    split at p1
    · rename_i b e
      exact ⟨b, truth_rel hK sh1 r1 e, p1.here sh1 rel_bl⟩
    · exact p1.elim
theorem evt_and (ha : PT X a (tT C W ta)) (hb : PW X (.BoolOp .And (b :: rest) pos) (tT C W tb)) : PW X (.BoolOp .And (a :: b :: rest) pos) (tT C W (mandT ta tb)) :=
  weakW (pw_and ha hb) fun σ H Q ⟨ρ, env, hd, er, sh, p⟩ => seqT er sh p fun k H1 ρ1 hd1 x er1 sh1 p1 => by
    cases k with
    | true => exact ⟨ρ1, env, hd1, er1, sh1, p1⟩
    | false => exact p1.here sh1 rfl
theorem evt_or (ha : PT X a (tT C W ta)) (hb : PW X (.BoolOp .Or (b :: rest) pos) (tT C W tb)) : PW X (.BoolOp .Or (a :: b :: rest) pos) (tT C W (morT ta tb)) :=
  weakW (pw_or ha hb) fun σ H Q ⟨ρ, env, hd, er, sh, p⟩ => seqT er sh p fun k H1 ρ1 hd1 x er1 sh1 p1 => by
    cases k with
    | true => exact p1.here sh1 rfl
    | false => exact ⟨ρ1, env, hd1, er1, sh1, p1⟩
theorem evt_not (ha : PT X a (tT C W ta)) : PT X (.UnaryOp .Not a pos) (tT C W (mnotT ta)) :=
  weakT (pt_not ha) fun σ H Q ⟨ρ, env, hd, er, sh, p⟩ => seqT er sh p fun k H1 ρ1 hd1 x er1 sh1 p1 => p1.here sh1 rfl
/-- a test by its value's truth -/
def plainTest : Expr → Bool
  | .UnaryOp .Not _ _ => false
  | .BoolOp _ _ _ => false
  | .IfExp _ _ _ _ => false
  | .Compare _ _ _ _ => false
  | _ => true
theorem isTrue_of (h : plainTest e = true) : ∀ whole, isTrue e X.env whole = (do let v ← whole; standAt e.pos; holding [v] (truthy v)) := by
  intro whole
  cases e with
  | UnaryOp op _ _ => cases op <;> first | rfl | cases h
  | BoolOp _ _ _ => cases h
  | IfExp _ _ _ _ => cases h
  | Compare _ _ _ _ => cases h
  | _ => rfl
theorem evt_tru (hK : X.K = C.K) (ha : PE X e (tE C W ma)) (hp : plainTest e = true) : PT X e (tT C W (mtru ma)) :=
  weakT (pt_truth ha (isTrue_of hp)) fun σ H Q ⟨ρ, env, hd, er, sh, p⟩ => seqE er sh p fun v H1 ρ1 hd1 d x er1 sh1 r1 p1 => by
    split at p1
    · rename_i b e1
      exact ⟨b, truth_rel hK sh1 r1 e1, p1.here sh1 rfl⟩
    · exact p1.elim
theorem bl_of {σ : L2.St} {H : Hp} {Q : Bool → Hp → Prop} (h : tT C W (mbl ma) σ H Q) : tE C W ma σ H fun x H1 => ∃ k, x = .bl k ∧ Q k H1 := by
  obtain ⟨ρ, env, hd, er, sh, p⟩ := h
  exact seqE er sh p fun v H1 ρ1 hd1 d x er1 sh1 r1 p1 => by
    split at p1
    · rename_i b
      exact ⟨b, of_bl r1, p1.here sh1 rfl⟩
    · exact p1.elim
theorem evt_cmp {op : CmpOp} {f : Op2} (ho : OpR X (compareOp op) (rO2 C f)) (ha : PE X a (tE C W ma)) (hb : PE X b (tE C W mb)) (hm : behindInMarks op b = false) : PT X (.Compare a [op] [b] pos) (tT C W (mbl (mop2 false f ma mb))) :=
  weakT (pt_cmpR ho ha hb hm) fun σ H Q h => seq_op2 (bl_of h)
theorem seq_chain {f g : Op2} {σ : L2.St} {H : Hp} {Q : VK} (h : tE C W (mchain f g ma mb mc') σ H Q) : tChain (rO2 C f) (rO2 C g) (tE C W ma) (tE C W mb) (tE C W mc') σ H Q := by
  obtain ⟨ρ, env, hd, er, sh, p⟩ := h
  exact seqE er sh p fun v H1 ρ1 hd1 d x er1 sh1 r1 p1 => seqE er1 sh1 p1 fun v2 H2 ρ2 hd2 d2 x2 er2 sh2 r2 p2 => by
    refine ⟨ρ2, hd2, d, d2, sh2, Rel.ext x2 _ _ r1, r2, ?_⟩
    split at p2
    · rename_i e
      rw [e]
      intro H3 v3 x3 sh3 r3
      refine ⟨true, of_bl r3, ?_⟩
      rw [if_pos rfl]
      exact seqE (er2.ext x3) sh3 (p2.ext x3) fun v4 H4 ρ4 hd4 d4 x4 er4 sh4 r4 p4 => ⟨ρ4, hd4, d2, d4, sh4, Rel.ext (x3.trans x4) _ _ r2, r4, p4.fin sh4⟩
    · rename_i e
      rw [e]
      intro H3 v3 x3 sh3 r3
      refine ⟨false, of_bl r3, ?_⟩
      rw [if_neg Bool.false_ne_true]
      exact (p2.ext x3).here sh3 rel_bl
    · exact p2.elim
theorem ev_chain {op op' : CmpOp} {f g : Op2} (ho : OpR X (compareOp op) (rO2 C f)) (ho' : OpR X (compareOp op') (rO2 C g)) (ha : PE X a (tE C W ma)) (hb : PE X b (tE C W mb)) (hc : PE X c (tE C W mc'))
    (hm : lastMarks [op, op'] [b, c] = false) : PE X (.Compare a [op, op'] [b, c] pos) (tE C W (mchain f g ma mb mc')) := weakE (pe_chain ho ho' ha hb hc hm) fun _ _ _ h => seq_chain h
theorem evt_chain {op op' : CmpOp} {f g : Op2} (ho : OpR X (compareOp op) (rO2 C f)) (ho' : OpR X (compareOp op') (rO2 C g)) (ha : PE X a (tE C W ma)) (hb : PE X b (tE C W mb)) (hc : PE X c (tE C W mc'))
    (hm : lastMarks [op, op'] [b, c] = false) : PT X (.Compare a [op, op'] [b, c] pos) (tT C W (mbl (mchain f g ma mb mc'))) := weakT (pt_chain ho ho' ha hb hc hm) fun _ _ _ h => seq_chain (bl_of h)
theorem ev_ite (hc : PT X c (tT C W ta)) (ha : PE X a (tE C W ma)) (hb : PE X b (tE C W mb)) : PE X (.IfExp c a b pos) (tE C W (mite ta ma mb)) :=
  weakE (pe_ifExp hc ha hb) fun σ H Q ⟨ρ, env, hd, er, sh, p⟩ => seqT er sh p fun k H1 ρ1 hd1 x er1 sh1 p1 => by
    cases k with
    | true => exact ⟨ρ1, env, hd1, er1, sh1, p1⟩
    | false => exact ⟨ρ1, env, hd1, er1, sh1, p1⟩
theorem seq_fun {m : Bool} {f : OpN} {σ : L2.St} {H : Hp} {Q : VK} (h : tE C W (mfun m f ms) σ H Q) : tL C W ms σ H fun vs H1 => rON C f vs H1 Q := by
  obtain ⟨ρ, env, hd, er, sh, p⟩ := h
  exact seqL er sh p fun vs H1 ρ1 hd1 ds x er1 sh1 r1 p1 => ⟨ρ1, hd1, ds, sh1, r1, p1.fin sh1⟩
theorem ev_callB {m : Bool} {id : String} {x : Str} {pn : Pos} {f : OpN} (hc : CallR X (.builtin id) (rON C f)) (hg : Gl X x) (hm : X.mg x = none) (hv : bootBuiltins x = some (.builtin id)) (ha : PA X (e :: es) (tL C W ms))
    (hn : x ≠ "__name__") (hdb : (x == ("__debug__" : Str)) = false) (hs : noStars (e :: es) = true) : PE X (.Call (.Name x pn) (e :: es) [] pos) (tE C W (mfun m f ms)) := by
  have hs' : notStar e = true ∧ noStars es = true := by unfold noStars at hs; rwa [Bool.and_eq_true] at hs
  exact weakE (pe_callB hc hg hm hv ha hn hdb (starEach_at hs'.1) (plain_of hs'.2)) fun _ _ _ h => seq_fun h
theorem ev_callTy {m : Bool} {T : String} {x : Str} {pn : Pos} {f : OpN} (hc : CallR X (.type T) (rON C f)) (hg : Gl X x) (hm : X.mg x = none) (hv : bootBuiltins x = some (.type T)) (ha : PA X (e :: es) (tL C W ms))
    (hn : x ≠ "__name__") (hdb : (x == ("__debug__" : Str)) = false) (hs : noStars (e :: es) = true) : PE X (.Call (.Name x pn) (e :: es) [] pos) (tE C W (mfun m f ms)) := by
  have hs' : notStar e = true ∧ noStars es = true := by unfold noStars at hs; rwa [Bool.and_eq_true] at hs
  exact weakE (pe_callTy hc hg hm hv ha hn hdb (starEach_at hs'.1) (plain_of hs'.2)) fun _ _ _ h => seq_fun h
end
end EV


/-! EvG: the built-in functions. -/
namespace EV
open PySem PySem.Spec PyProof.Rows L2

def lenOf (d : D) (h : Hd) : Option Nat := match d with
  | .str s => some s.length
  | d => (seqOf d h).map List.length
def fLen : OpN
  | [d], h => (lenOf d h).map fun n => .v (.int n)
  | _, _ => none
def fAll : OpN
  | [d], h => match lstOf d h with
    | some xs => (blsOf xs).map fun bs => .v (.bl (bs.all id))
    | none => none
  | _, _ => none
def fAny : OpN
  | [d], h => match lstOf d h with
    | some xs => (blsOf xs).map fun bs => .v (.bl (bs.any id))
    | none => none
  | _, _ => none
def fSum : OpN
  | [d], h => match lstOf d h with
    | some xs => (intsOf xs).map fun ns => .v (.int ns.sum)
    | none => none
  | _, _ => none
def fAbs : OpN
  | [.int i], _ => some (.v (.int (if i < 0 then -i else i)))
  | _, _ => none
def fMax : OpN
  | [.int i, .int j], _ => some (.v (.int (if j > i then j else i)))
  | _, _ => none
def fMin : OpN
  | [.int i, .int j], _ => some (.v (.int (if j < i then j else i)))
  | _, _ => none
def fInt : OpN
  | [.int i], _ => some (.v (.int i))
  | [.bl b], _ => some (.v (.int (if b then 1 else 0)))
  | _, _ => none
def fDivmod : OpN
  | [.int i, .int j], _ => if 0 < j ∧ j < 1073741824 then some (.v (.tup [.int (i / j), .int (i % j)])) else none
  | _, _ => none
def fList : OpN
  | [d], h => (seqOf d h).map .new
  | _, _ => none
def fTuple : OpN
  | [d], h => (seqOf d h).map fun xs => .v (.tup xs)
  | _, _ => none
inductive TyN where
  | none | bool | int | str | tuple | list | dict
def TyN.nm : TyN → String
  | .none => "NoneType" | .bool => "bool" | .int => "int" | .str => "str" | .tuple => "tuple" | .list => "list" | .dict => "dict"
def tyOf (d : D) (h : Hd) : Option TyN := match d with
  | .non => some .none
  | .bl _ => some .bool
  | .int _ => some .int
  | .str _ => some .str
  | .tup _ => some .tuple
  | .lst _ => some .list
  | .scr _ => some .list
  | .dic _ _ => some .dict
  | .ref n => match h[n]? with
    | some (.lst _) => some .list
    | some (.dic _ _) => some .dict
    | _ => none
  | _ => none
def isSub : TyN → Ty → Bool
  | .bool, .bool => true | .bool, .int => true | .int, .int => true | .str, .str => true
  | .tuple, .tuple => true | .list, .list => true | .dict, .dict => true
  | _, _ => false
def fIsi : OpN
  | [d, .ty t], h => (tyOf d h).map fun n => .v (.bl (isSub n t))
  | _, _ => none

section
variable {X : Cx} {C : Ctx} {ρ : RhoT} {H : Hp} {hd : Hd} {pins : List (Addr × Obj)} {σ : L2.St} {s : Shared}
theorem relL1 {d : D} {vs : List V} (r : RelL C ρ H [d] vs) : ∃ v, vs = [v] ∧ Rel C ρ H d v := by
  simp only [RelL] at r
  obtain ⟨v, r, rfl, h, rfl⟩ := r
  exact ⟨v, rfl, h⟩
theorem relL2 {d e : D} {vs : List V} (r : RelL C ρ H [d, e] vs) : ∃ v w, vs = [v, w] ∧ Rel C ρ H d v ∧ Rel C ρ H e w := by
  simp only [RelL] at r
  obtain ⟨v, r, rfl, h, w, r, rfl, h2, rfl⟩ := r
  exact ⟨v, w, rfl, h, h2⟩
theorem bls_of : ∀ {xs : List D} {bs : List Bool} {vs : List V}, blsOf xs = some bs → RelL C ρ H xs vs → vs = bs.map V.bl
  | [], _, _, e, r => by simp only [blsOf, Option.some.injEq] at e; subst e; rw [RelL.nil_iff] at r; exact r
  | .bl b :: xs, _, _, e, r => by
    simp only [blsOf, Option.map_eq_some_iff] at e
    obtain ⟨bs, e, rfl⟩ := e
    simp only [RelL] at r
    obtain ⟨v, vs, rfl, r1, r2⟩ := r
    rw [of_bl r1, bls_of e r2]; rfl
  | .non :: _, _, _, e, _ => by cases e
  | .int _ :: _, _, _, e, _ => by cases e
  | .str _ :: _, _, _, e, _ => by cases e
  | .tup _ :: _, _, _, e, _ => by cases e
  | .lst _ :: _, _, _, e, _ => by cases e
  | .ref _ :: _, _, _, e, _ => by cases e
  | .fn _ :: _, _, _, e, _ => by cases e
  | .ty _ :: _, _, _, e, _ => by cases e
  | .cl _ :: _, _, _, e, _ => by cases e
  | .scr _ :: _, _, _, e, _ => by cases e
  | .dic _ _ :: _, _, _, e, _ => by cases e
theorem ints_of : ∀ {xs : List D} {bs : List Int} {vs : List V}, intsOf xs = some bs → RelL C ρ H xs vs → vs = bs.map V.int
  | [], _, _, e, r => by simp only [intsOf, Option.some.injEq] at e; subst e; rw [RelL.nil_iff] at r; exact r
  | .int b :: xs, _, _, e, r => by
    simp only [intsOf, Option.map_eq_some_iff] at e
    obtain ⟨bs, e, rfl⟩ := e
    simp only [RelL] at r
    obtain ⟨v, vs, rfl, r1, r2⟩ := r
    rw [of_int r1, ints_of e r2]; rfl
  | .non :: _, _, _, e, _ => by cases e
  | .bl _ :: _, _, _, e, _ => by cases e
  | .str _ :: _, _, _, e, _ => by cases e
  | .tup _ :: _, _, _, e, _ => by cases e
  | .lst _ :: _, _, _, e, _ => by cases e
  | .ref _ :: _, _, _, e, _ => by cases e
  | .fn _ :: _, _, _, e, _ => by cases e
  | .ty _ :: _, _, _, e, _ => by cases e
  | .cl _ :: _, _, _, e, _ => by cases e
  | .scr _ :: _, _, _, e, _ => by cases e
  | .dic _ _ :: _, _, _, e, _ => by cases e
theorem strs_of : ∀ {xs : List D} {bs : List Str} {vs : List V}, strsOf xs = some bs → RelL C ρ H xs vs → vs = bs.map V.str
  | [], _, _, e, r => by simp only [strsOf, Option.some.injEq] at e; subst e; rw [RelL.nil_iff] at r; exact r
  | .str b :: xs, _, _, e, r => by
    simp only [strsOf, Option.map_eq_some_iff] at e
    obtain ⟨bs, e, rfl⟩ := e
    simp only [RelL] at r
    obtain ⟨v, vs, rfl, r1, r2⟩ := r
    rw [(of_str r1).1, strs_of e r2]; rfl
  | .non :: _, _, _, e, _ => by cases e
  | .bl _ :: _, _, _, e, _ => by cases e
  | .int _ :: _, _, _, e, _ => by cases e
  | .tup _ :: _, _, _, e, _ => by cases e
  | .lst _ :: _, _, _, e, _ => by cases e
  | .ref _ :: _, _, _, e, _ => by cases e
  | .fn _ :: _, _, _, e, _ => by cases e
  | .ty _ :: _, _, _, e, _ => by cases e
  | .cl _ :: _, _, _, e, _ => by cases e
  | .scr _ :: _, _, _, e, _ => by cases e
  | .dic _ _ :: _, _, _, e, _ => by cases e

theorem fn_len (hK : X.K = C.K) : CallR X (.builtin "len") (rON C fLen) := by
  intro pins s σ H xs us Q I r ⟨ρ, hd, ds, sh, rl, p⟩
  unfold fLen at p
  split at p
  · rename_i d
    obtain ⟨v, rfl, r1⟩ := relL1 rl
    have go : ∀ d : D, (seqOf d hd).map List.length = lenOf d hd → Rel C ρ H d v → PostO C ρ H hd Q ((lenOf d hd).map fun n => .v (.int n)) → wpAny (model X.prog X.w) X.A (call (.builtin "len") us) (EP X pins σ Q) X.xe s := fun d e r1 p => by
      rw [← e] at p
      cases hq : seqOf d hd with
      | none => rw [hq] at p; exact p.elim
      | some ys =>
        rw [hq] at p
        obtain ⟨a, vs, rfl, t, rl, z⟩ := seq_of sh r1 hq
        exact L2.call_len_seq pins s σ H _ us Q I r ⟨a, vs, rfl, hK ▸ t, by rw [← rl.length]; exact p.v sh rel_int⟩
    cases d with
    | str z =>
      obtain ⟨rfl, hz⟩ := of_str r1
      exact L2.call_len_str pins s σ H _ us Q I r ⟨z, rfl, hz, p.v sh rel_int⟩
    | tup _ => exact go _ rfl r1 p
    | lst _ => exact go _ rfl r1 p
    | ref _ => exact go _ rfl r1 p
    | scr _ => exact go _ rfl r1 p
    | _ => exact p.elim
  · exact p.elim
theorem fn_all (hK : X.K = C.K) (hc : X.calm = true) : CallR X (.builtin "all") (rON C fAll) := by
  intro pins s σ H xs us Q I r ⟨ρ, hd, ds, sh, rl, p⟩
  unfold fAll at p
  split at p
  · split at p
    · rename_i ys e
      obtain ⟨v, rfl, r1⟩ := relL1 rl
      cases hb : blsOf ys with
      | none => rw [hb] at p; exact p.elim
      | some bs =>
        rw [hb] at p
        obtain ⟨a, vs, rfl, t, rl2, z⟩ := lst_of sh r1 e
        cases bls_of hb rl2
        exact cr_all hc pins s σ H _ us Q I r ⟨a, bs, rfl, .of t, p.v sh rel_bl⟩
    · exact p.elim
  · exact p.elim
theorem fn_any (hK : X.K = C.K) (hc : X.calm = true) : CallR X (.builtin "any") (rON C fAny) := by
  intro pins s σ H xs us Q I r ⟨ρ, hd, ds, sh, rl, p⟩
  unfold fAny at p
  split at p
  · split at p
    · rename_i ys e
      obtain ⟨v, rfl, r1⟩ := relL1 rl
      cases hb : blsOf ys with
      | none => rw [hb] at p; exact p.elim
      | some bs =>
        rw [hb] at p
        obtain ⟨a, vs, rfl, t, rl2, z⟩ := lst_of sh r1 e
        cases bls_of hb rl2
        exact cr_any hc pins s σ H _ us Q I r ⟨a, bs, rfl, .of t, p.v sh rel_bl⟩
    · exact p.elim
  · exact p.elim
theorem fn_sum (hK : X.K = C.K) (hc : X.calm = true) : CallR X (.builtin "sum") (rON C fSum) := by
  intro pins s σ H xs us Q I r ⟨ρ, hd, ds, sh, rl, p⟩
  unfold fSum at p
  split at p
  · split at p
    · rename_i ys e
      obtain ⟨v, rfl, r1⟩ := relL1 rl
      cases hb : intsOf ys with
      | none => rw [hb] at p; exact p.elim
      | some bs =>
        rw [hb] at p
        obtain ⟨a, vs, rfl, t, rl2, z⟩ := lst_of sh r1 e
        cases ints_of hb rl2
        exact cr_sum hc pins s σ H _ us Q I r ⟨a, bs, rfl, .of t, p.v sh rel_int⟩
    · exact p.elim
  · exact p.elim
theorem fn_abs : CallR X (.builtin "abs") (rON C fAbs) := by
  intro pins s σ H xs us Q I r ⟨ρ, hd, ds, sh, rl, p⟩
  unfold fAbs at p
  split at p
  · obtain ⟨v, rfl, r1⟩ := relL1 rl
    cases of_int r1
    exact call_abs pins s σ H _ us Q I r ⟨_, rfl, p.v sh rel_int⟩
  · exact p.elim
theorem fn_max (hc : X.calm = true) : CallR X (.builtin "max") (rON C fMax) := by
  intro pins s σ H xs us Q I r ⟨ρ, hd, ds, sh, rl, p⟩
  unfold fMax at p
  split at p
  · obtain ⟨v, w, rfl, r1, r2⟩ := relL2 rl
    cases of_int r1; cases of_int r2
    exact call_max2 hc pins s σ H _ us Q I r ⟨_, _, rfl, p.v sh rel_int⟩
  · exact p.elim
theorem fn_min (hc : X.calm = true) : CallR X (.builtin "min") (rON C fMin) := by
  intro pins s σ H xs us Q I r ⟨ρ, hd, ds, sh, rl, p⟩
  unfold fMin at p
  split at p
  · obtain ⟨v, w, rfl, r1, r2⟩ := relL2 rl
    cases of_int r1; cases of_int r2
    exact call_min2 hc pins s σ H _ us Q I r ⟨_, _, rfl, p.v sh rel_int⟩
  · exact p.elim
theorem fn_int : CallR X (.type "int") (rON C fInt) := by
  intro pins s σ H xs us Q I r ⟨ρ, hd, ds, sh, rl, p⟩
  unfold fInt at p
  split at p
  · obtain ⟨v, rfl, r1⟩ := relL1 rl
    cases of_int r1
    exact call_int1 pins s σ H _ us Q I r (.inl ⟨_, rfl, p.v sh rel_int⟩)
  · obtain ⟨v, rfl, r1⟩ := relL1 rl
    cases of_bl r1
    exact call_int1 pins s σ H _ us Q I r (.inr ⟨_, rfl, p.v sh rel_int⟩)
  · exact p.elim
theorem fn_divmod : CallR X (.builtin "divmod") (rON C fDivmod) := by
  intro pins s σ H xs us Q I r ⟨ρ, hd, ds, sh, rl, p⟩
  unfold fDivmod at p
  split at p
  · split at p
    · rename_i hj
      obtain ⟨v, w, rfl, r1, r2⟩ := relL2 rl
      cases of_int r1; cases of_int r2
      refine call_divmod pins s σ H _ us Q I r ⟨_, _, rfl, hj, fun a ha => ?_⟩
      exact p _ _ (Ext.upd_new ha) (sh.upd_new ha) (rel_tup sh ha (RelL.cons rel_int (RelL.cons rel_int RelL.nil)) (by simp [sizeLine_eq]))
    · exact p.elim
  · exact p.elim
theorem fn_list (hK : X.K = C.K) : CallR X (.type "list") (rON C fList) := by
  intro pins s σ H xs us Q I r ⟨ρ, hd, ds, sh, rl, p⟩
  unfold fList at p
  split at p
  · rename_i d
    obtain ⟨v, rfl, r1⟩ := relL1 rl
    cases hq : seqOf d hd with
    | none => rw [hq] at p; exact p.elim
    | some ys =>
      rw [hq] at p
      obtain ⟨a, vs, rfl, t, rl2, z⟩ := seq_of sh r1 hq
      exact call_list_of pins s σ H _ us Q I r ⟨a, vs, rfl, hK ▸ t, fun l hl => p l vs z hl rl2⟩
  · exact p.elim
theorem fn_tuple (hK : X.K = C.K) : CallR X (.type "tuple") (rON C fTuple) := by
  intro pins s σ H xs us Q I r ⟨ρ, hd, ds, sh, rl, p⟩
  unfold fTuple at p
  split at p
  · rename_i d
    obtain ⟨v, rfl, r1⟩ := relL1 rl
    cases hq : seqOf d hd with
    | none => rw [hq] at p; exact p.elim
    | some ys =>
      rw [hq] at p
      rcases seqOf_cases hq with rfl | h
      · obtain ⟨a, vs, rfl, t, rl2, z⟩ := tup_of r1
        exact call_tuple_of pins s σ H _ us Q I r ⟨a, vs, rfl, .inr ⟨hK ▸ t, p H _ Ext.refl sh r1⟩⟩
      · obtain ⟨a, vs, rfl, t, rl2, z⟩ : ∃ a vs, v = .ref a ∧ SqL C.K H a vs ∧ RelL C ρ H ys vs ∧ ys.length ≤ sizeLine := by
          rcases h with ⟨ns, rfl, rfl⟩ | h
          · obtain ⟨a, e, f, z⟩ := scr_of r1; exact ⟨a, _, e, f, relL_ints, by simpa using z⟩
          · obtain ⟨a, vs, e, f, q, z⟩ := lst_of sh r1 h; exact ⟨a, vs, e, .of f, q, z⟩
        exact call_tuple_of pins s σ H _ us Q I r ⟨a, vs, rfl, .inl ⟨hK ▸ t, fun l hl => p _ _ (Ext.upd_new hl) (sh.upd_new hl) (rel_tup sh hl rl2 z)⟩⟩
  · exact p.elim
theorem isSub_kit (n : TyN) (t : Ty) : kitB n.nm t.nm = some (isSub n t) := by
  cases n <;> cases t <;> decide +kernel
theorem tyOf_rel (hK : X.K = C.K) {d : D} {v : V} {n : TyN} (sh : SimH C ρ H hd) (r : Rel C ρ H d v) (e : tyOf d hd = some n) : TyX X.K H v (.type n.nm) := by
  have lstx : ∀ {a : Addr} {vs : List V}, H a = some (.lst vs) → TyX X.K H (.ref a) (.type "list") := fun h => .base (.lst h)
  cases d with
  | non => cases of_non r; cases e; exact .base .non
  | bl b => cases of_bl r; cases e; exact .base (.bl b)
  | int i => cases of_int r; cases e; exact .base (.int i)
  | str z => cases (of_str r).1; cases e; exact .base (.str z)
  | tup xs =>
    cases e
    simp only [Rel] at r
    obtain ⟨a, vs, rfl, t, _⟩ := r
    rcases t with ⟨t | ⟨o, t⟩, _⟩ | ⟨o, its, m, k1, k2, _⟩
    · exact .base (.tup t)
    · exact .fTuple t
    · exact .kTuple (hK ▸ k1) k2
  | lst xs =>
    cases e
    simp only [Rel] at r
    obtain ⟨a, vs, rfl, t, _⟩ := r
    exact lstx t.1
  | scr ns =>
    cases e
    simp only [Rel] at r
    obtain ⟨a, rfl, t, _⟩ := r
    rcases t with ⟨t | ⟨o, t⟩, _⟩ | ⟨o, its, m, k1, k2, _⟩
    · exact lstx t
    · exact .base (.frz t)
    · exact .kList (hK ▸ k1) k2
  | dic ks xs =>
    cases e
    simp only [Rel] at r
    obtain ⟨a, vs, rfl, t, _⟩ := r
    exact .base (.dK t.1)
  | ref m =>
    simp only [tyOf] at e
    simp only [Rel] at r
    obtain ⟨a, rfl, f⟩ := r
    split at e
    · rename_i xs h
      cases e
      obtain ⟨_, vs, t, _⟩ := sh.lst_at h f
      exact lstx t
    · rename_i ks xs h
      cases e
      rcases f with f | f
      · obtain ⟨o, h1, h2⟩ := sh.at_ m a f
        rw [h] at h1; cases h1
        obtain ⟨vs, t, _⟩ := h2
        exact .base (.dK t)
      · cases sh.live m _ h f
    · cases e
  | fn _ => cases e
  | ty _ => cases e
  | cl _ => cases e
theorem fn_isi (hK : X.K = C.K) : CallR X (.builtin "isinstance") (rON C fIsi) := by
  intro pins s σ H xs us Q I r ⟨ρ, hd, ds, sh, rl, p⟩
  unfold fIsi at p
  split at p
  · rename_i d t
    obtain ⟨v, w, rfl, r1, r2⟩ := relL2 rl
    have e2 : w = .ty t.nm := by simpa only [Rel] using r2
    subst e2
    cases hq : tyOf d hd with
    | none => rw [hq] at p; exact p.elim
    | some n =>
      rw [hq] at p
      exact call_isi pins s σ H _ us Q I r ⟨v, _, _, _, _, rfl, .ty _, tyOf_rel hK sh r1 hq, kit_ty (isSub_kit n t), p.v sh rel_bl⟩
  · exact p.elim
end
end EV


/-! EvH: slices, methods, lists that stop changing. -/
namespace EV
open PySem PySem.Spec PyProof.Rows L2

/-! ### slices -/
def cutD (xs : List D) (lo hi : Option Int) : List D := (xs.drop (HT.sIx xs.length 0 lo)).take (HT.sIx xs.length xs.length hi - HT.sIx xs.length 0 lo)
abbrev OpS := D → Option Int → Option Int → Hd → Option OV
def oSl : OpS := fun d lo hi h => match d with
  | .str s => some (.v (.str (cutS s lo hi)))
  | .tup xs => some (.v (.tup (cutD xs lo hi)))
  | d => (lstOf d h).map fun xs => .new (cutD xs lo hi)
/-- a slice's part -/
def mpart : Option (M D) → M (Option Int)
  | none => fun _ h => .ok none h
  | some a => fun env h => (a env h).bind fun x h1 => match x with
    | .int i => .ok (some i) h1
    | _ => .bad
def msl (m : Bool) (a : M D) (lo hi : M (Option Int)) : M D := fun env h => (a env h).bind fun x h1 => (lo env h1).bind fun l h2 => (hi env h2).bind fun u h3 => fin m (oSl x l u h3) h3

section
variable {X : Cx} {C : Ctx} {W : WX} {pos p2 : Pos} {a b c e : Expr} {es rest : List Expr} {ma mb mc' : M D} {ms : M (List D)} {ta tb : M Bool}
variable {ρ : RhoT} {H : Hp} {hd : Hd} {env : Env} {σ : L2.St}

theorem cutD_rel {xs : List D} {vs : List V} {lo hi : Option Int} (r : RelL C ρ H xs vs) : RelL C ρ H (cutD xs lo hi) (cutV vs lo hi) := by
  unfold cutD cutV
  rw [r.length]
  exact (r.drop _).take _
theorem cutD_len {xs : List D} {lo hi : Option Int} : (cutD xs lo hi).length ≤ xs.length := by
  unfold cutD
  rw [List.length_take, List.length_drop]
  omega
theorem cutV_whole {vs : List V} {lo hi : Option Int} (h : HT.sIx vs.length 0 lo = 0 ∧ HT.sIx vs.length vs.length hi = vs.length) : cutV vs lo hi = vs := by
  unfold cutV
  rw [h.1, h.2]
  simp
theorem cutD_whole {xs : List D} {lo hi : Option Int} (h : HT.sIx xs.length 0 lo = 0 ∧ HT.sIx xs.length xs.length hi = xs.length) : cutD xs lo hi = xs := by
  unfold cutD
  rw [h.1, h.2]
  simp
theorem sl_ok (hK : X.K = C.K) : SlR X (fun x lo hi H Q => ∃ ρ hd dx, SimH C ρ H hd ∧ Rel C ρ H dx x ∧ PostO C ρ H hd Q (oSl dx lo hi hd)) := by
  intro pins s σ H x v vl vu lo hi sl Q I rx hs pl pu ⟨ρ, hd, dx, sh, r1, p⟩
  have lst : ∀ d : D, (lstOf d hd).map (fun xs => OV.new (cutD xs lo hi)) = oSl d lo hi hd → Rel C ρ H d x → PostO C ρ H hd Q (oSl d lo hi hd) →
      ∃ T id, typeLookup (.type T) "__getitem__" = pure (some (.builtin id)) ∧ s.TypeIs v T ∧ wpAny (model X.prog X.w) X.A (getItem v (.ref sl)) (EP X pins σ Q) X.xe s := fun d e r1 p => by
    rw [← e] at p
    cases hq : lstOf d hd with
    | none => rw [hq] at p; exact p.elim
    | some ys =>
      rw [hq] at p
      obtain ⟨a, vs, rfl, t, rl, z⟩ := lst_of sh r1 hq
      exact sl_list pins s σ H _ v vl vu lo hi sl Q I rx hs pl pu ⟨a, vs, rfl, .of t, fun q hq => p q _ (Nat.le_trans cutD_len z) hq (cutD_rel rl)⟩
  cases dx with
  | str z =>
    obtain ⟨rfl, hz⟩ := of_str r1
    exact sl_str pins s σ H _ v vl vu lo hi sl Q I rx hs pl pu ⟨z, rfl, hz, p H _ Ext.refl sh (rel_str (Nat.le_trans (cutS_length _ _ _) hz))⟩
  | tup xs =>
    obtain ⟨a, vs, rfl, t, rl, z⟩ := tup_of r1
    refine sl_tupA pins s σ H _ v vl vu lo hi sl Q I rx hs pl pu ⟨a, vs, rfl, hK ▸ t, fun hw => ?_, fun hw q hq => ?_⟩
    · have hw' := hw
      rw [← rl.length] at hw'
      exact p H _ Ext.refl sh (by rw [cutD_whole hw']; exact r1)
    · exact p _ _ (Ext.upd_new hq) (sh.upd_new hq) (rel_tup sh hq (cutD_rel rl) (Nat.le_trans cutD_len z))
  | lst xs => exact lst _ rfl r1 p
  | ref n => exact lst _ rfl r1 p
  | _ => exact p.elim
def tO (C : Ctx) (W : WX) (m : M (Option Int)) : TO := fun σ H Q => ∃ ρ env hd, EnvRel C ρ H env σ ∧ SimH C ρ H hd ∧ PostX C (fun _ _ b b' => b' = b) ρ H (fun c d H' => W c d σ H') Q (m env hd)
theorem seqO {α β : Type} {R : RhoT → Hp → α → β → Prop} {Q : β → Hp → Prop} {m : M (Option Int)} {f : Option Int → Hd → Res α} {Q' : Option Int → Hp → Prop} (er : EnvRel C ρ H env σ) (sh : SimH C ρ H hd) (p : PostX C R ρ H (fun c d H' => W c d σ H') Q ((m env hd).bind f))
    (k : ∀ b H1 ρ1 hd1, Ext ρ ρ1 H H1 → EnvRel C ρ1 H1 env σ → SimH C ρ1 H1 hd1 → PostX C R ρ1 H1 (fun c d H' => W c d σ H') Q (f b hd1) → Q' b H1) : tO C W m σ H Q' :=
  ⟨ρ, env, hd, er, sh, (PostX.bind (R1 := fun _ _ b b' => b' = b) p).imp (fun v H1 ⟨ρ1, hd1, d, x, s, r, q⟩ => by subst r; exact k v H1 ρ1 hd1 x (er.ext x) s q) fun _ _ _ z => z⟩
theorem evo_none : PO X none (tO C W (mpart none)) := ⟨fun pins s σ H Q I ⟨ρ, env, hd, er, sh, p⟩ => po_none.run pins s σ H Q I (p.here sh rfl)⟩
theorem evo_some (ha : PE X e (tE C W ma)) : PO X (some e) (tO C W (mpart (some ma))) := ⟨fun pins s σ H Q I ⟨ρ, env, hd, er, sh, p⟩ => (po_some ha).run pins s σ H Q I
  (seqE er sh p fun v H1 ρ1 hd1 d x er1 sh1 r1 p1 => by
    split at p1
    · rename_i i
      exact ⟨i, of_int r1, p1.here sh1 rfl⟩
    · exact p1.elim)⟩
theorem ev_sl {m : Bool} {lo hi : Option Expr} {ml mh : M (Option Int)} (hK : X.K = C.K) (ha : PE X a (tE C W ma)) (hl : PO X lo (tO C W ml)) (hh : PO X hi (tO C W mh)) : PE X (.Subscript a (.Slice lo hi none p2) pos) (tE C W (msl m ma ml mh)) :=
  weakE (pe_slice (sl_ok hK) ha hl hh) fun σ H Q ⟨ρ, env, hd, er, sh, p⟩ =>
    seqE er sh p fun v H1 ρ1 hd1 d x er1 sh1 r1 p1 => seqO er1 sh1 p1 fun l H2 ρ2 hd2 x2 er2 sh2 p2 => seqO er2 sh2 p2 fun u H3 ρ3 hd3 x3 er3 sh3 p3 => ⟨ρ3, hd3, d, sh3, Rel.ext (x2.trans x3) _ _ r1, p3.fin sh3⟩

/-! ### a list that changes no more -/
def mfz (a : M D) : M D := fun env h => (a env h).bind fun x h1 => match x with
  | .ref n => match h1[n]? with
    | some (.lst xs) => .ok (.lst xs) (h1.set n .dead)
    | some (.dic ks xs) => .ok (.dic ks xs) (h1.set n .dead)
    | _ => .bad
  | _ => .bad
theorem ev_fz (ha : PE X e (tE C W ma)) : PE X e (tE C W (mfz ma)) :=
  weakE ha fun σ H Q ⟨ρ, env, hd, er, sh, p⟩ => seqE er sh p fun v H1 ρ1 hd1 d x er1 sh1 r1 p1 => by
    split at p1
    · rename_i n
      simp only [Rel] at r1
      obtain ⟨a, rfl, f⟩ := r1
      split at p1
      · rename_i xs h
        obtain ⟨f', vs, t, rl, z⟩ := sh1.lst_at h f
        refine p1 _ _ _ Ext.freeze sh1.freeze ?_
        simp only [Rel]
        exact ⟨a, vs, rfl, ⟨t, sh1.unm_drop f'⟩, RelL.ext Ext.freeze _ _ rl, z⟩
      · rename_i ks xs h
        have f' : ρ1.r[n]? = some (some a) := by
          rcases f with f | f
          · exact f
          · cases sh1.live n _ h f
        obtain ⟨o, h1, h2⟩ := sh1.at_ n a f'
        rw [h] at h1; cases h1
        obtain ⟨vs, t, rl, z⟩ := (show ∃ vs, H1 a = some (.dK (ks.zip vs)) ∧ RelL C ρ1 H1 xs vs ∧ ks.length = xs.length from h2)
        refine p1 _ _ _ Ext.freeze sh1.freeze ?_
        simp only [Rel]
        exact ⟨a, vs, rfl, ⟨t, sh1.unm_drop f'⟩, RelL.ext Ext.freeze _ _ rl, z⟩
      · exact p1.elim
    · exact p1.elim

/-! ### methods: the receiver, then the arguments; they may change the receiver -/
abbrev OpM := D → List D → Hd → Option (D × Hd)
def PostM (C : Ctx) (ρ : RhoT) (H : Hp) (Q : VK) : Option (D × Hd) → Prop
  | none => False
  | some (d, hd') => ∀ H' v, Ext ρ ρ H H' → SimH C ρ H' hd' → Rel C ρ H' d v → Q v H'
def rOM (C : Ctx) (f : OpM) : V → List V → Hp → VK → Prop := fun x xs H Q => ∃ ρ hd dx ds, SimH C ρ H hd ∧ Rel C ρ H dx x ∧ RelL C ρ H ds xs ∧ PostM C ρ H Q (f dx ds hd)
def resM : Option (D × Hd) → Res D
  | none => .bad
  | some (d, h) => .ok d h
/-- g: whether the receiver is of the method's type -/
def mmeth (g : D → Hd → Bool) (f : OpM) (o : M D) (as : M (List D)) : M D := fun env h => (o env h).bind fun x h1 => if g x h1 then (as env h1).bind fun xs h2 => resM (f x xs h2) else .bad
theorem PostX.resM {W' : Value → Option Addr → Hp → Prop} {Q : VK} {r : Option (D × Hd)} (p : PostX C (Rel C) ρ H W' Q (resM r)) : PostM C ρ H Q r := by
  cases r with
  | none => exact p
  | some o => exact fun H' v x s r => p ρ H' v x s r
def isLst (d : D) (h : Hd) : Bool := (lstOf d h).isSome
def isStr (d : D) (_ : Hd) : Bool := match d with
  | .str _ => true
  | _ => false
def fAppend : OpM
  | .ref n, [y], h => match h[n]? with
    | some (.lst xs) => if xs.length < sizeLine then some (.non, h.set n (.lst (xs ++ [y]))) else none
    | _ => none
  | _, _, _ => none
def fPop : OpM
  | .ref n, [.int i], h => match h[n]? with
    | some (.lst xs) => if 0 ≤ i ∧ i < xs.length then (xs[i.toNat]?).map fun y => (y, h.set n (.lst (xs.eraseIdx i.toNat))) else none
    | _ => none
  | _, _, _ => none
def fExtend : OpM
  | .ref n, [d], h => match h[n]?, lstOf d h with
    | some (.lst xs), some ys => if xs.length + ys.length ≤ sizeLine then some (.non, h.set n (.lst (xs ++ ys))) else none
    | _, _ => none
  | _, _, _ => none
def fJoin : OpM
  | .str a, [d], h => match seqOf d h with
    | some ys => match strsOf ys with
      | some zs => if (zs.map (·.length)).sum + zs.length * a.length ≤ 16777216 then some (.str (Str.join a zs), h) else none
      | none => none
    | none => none
  | _, _, _ => none
theorem ref_lst {n : Nat} {xs : List D} {v : V} (sh : SimH C ρ H hd) (r : Rel C ρ H (.ref n) v) (h : hd[n]? = some (.lst xs)) : ∃ a vs, v = .ref a ∧ ρ.r[n]? = some (some a) ∧ H a = some (.lst vs) ∧ RelL C ρ H xs vs ∧ xs.length ≤ sizeLine := by
  simp only [Rel] at r
  obtain ⟨a, rfl, f⟩ := r
  obtain ⟨f', vs, t, rl, z⟩ := sh.lst_at h f
  exact ⟨a, vs, rfl, f', t, rl, z⟩
theorem mt_app : MtR X "list.append" (rOM C fAppend) := by
  intro pins s σ H x xs v us Q I rx rs ⟨ρ, hd, dx, ds, sh, r1, rl, p⟩
  unfold fAppend at p
  split at p
  · rename_i n y
    split at p
    · rename_i ys h
      split at p
      · rename_i hz
        obtain ⟨w, rfl, r2⟩ := relL1 rl
        obtain ⟨a, vs, rfl, f, t, rl2, z⟩ := ref_lst sh r1 h
        refine mt_append pins s σ H _ _ v us Q I rx rs ⟨a, vs, w, rfl, rfl, t, by rw [← rl2.length]; exact hz, ?_⟩
        exact p _ _ (Ext.store f t) (sh.store f t (rl2.append (RelL.cons r2 RelL.nil)) (by simpa using (show ys.length + 1 ≤ sizeLine from hz))) rel_non
      · exact p.elim
    · exact p.elim
  · exact p.elim
theorem mt_popI : MtR X "list.pop" (rOM C fPop) := by
  intro pins s σ H x xs v us Q I rx rs ⟨ρ, hd, dx, ds, sh, r1, rl, p⟩
  unfold fPop at p
  split at p
  · rename_i n i
    split at p
    · rename_i ys h
      split at p
      · rename_i hi
        obtain ⟨w, rfl, r2⟩ := relL1 rl
        cases of_int r2
        obtain ⟨a, vs, rfl, f, t, rl2, z⟩ := ref_lst sh r1 h
        cases e : ys[i.toNat]? with
        | none => rw [e] at p; exact p.elim
        | some y =>
          rw [e] at p
          obtain ⟨u, eu, ru⟩ := rl2.get e
          have hl := rl2.length
          have h63 := line63
          refine mt_popAt pins s σ H _ _ v us Q I rx rs ⟨a, vs, i, i.toNat, u, rfl, rfl, t, by omega, by omega, ?_, eu, ?_⟩
          · exact (ixN_seq (by unfold ixN; rw [if_pos hi.1, if_pos (by rw [← hl]; exact hi.2)])).1
          · exact p _ _ (Ext.store f t) (sh.store f t (rl2.eraseIdx _) (Nat.le_trans (len_erase _ _) z)) (Rel.ext (Ext.store f t) _ _ ru)
      · exact p.elim
    · exact p.elim
  · exact p.elim
theorem mt_ext : MtR X "list.extend" (rOM C fExtend) := by
  intro pins s σ H x xs v us Q I rx rs ⟨ρ, hd, dx, ds, sh, r1, rl, p⟩
  unfold fExtend at p
  split at p
  · rename_i n d
    split at p
    · rename_i ys zs h e
      split at p
      · rename_i hz
        obtain ⟨w, rfl, r2⟩ := relL1 rl
        obtain ⟨a, vs, rfl, f, t, rl2, z⟩ := ref_lst sh r1 h
        obtain ⟨b, ws, rfl, t2, rl3, z3⟩ := lst_of sh r2 e
        have h1 := rl2.length
        have h2 := rl3.length
        refine mt_extend pins s σ H _ _ v us Q I rx rs ⟨a, b, vs, ws, rfl, rfl, t, t2, by omega, ?_⟩
        exact p _ _ (Ext.store f t) (sh.store f t (rl2.append rl3) (by simpa using hz)) rel_non
      · exact p.elim
    · exact p.elim
  · exact p.elim
theorem join_len (a : Str) : ∀ zs : List Str, (Str.join a zs).length ≤ (zs.map (·.length)).sum + zs.length * a.length
  | [] => Nat.zero_le _
  | [z] => by simp [Str.join]
  | z :: y :: zs => by
    have ih := join_len a (y :: zs)
    show ((z ++ a) ++ Str.join a (y :: zs)).length ≤ _
    rw [len_app, len_app]
    simp only [List.map_cons, List.sum_cons, List.length_cons] at ih ⊢
    rw [Nat.add_mul (zs.length + 1) 1]
    omega
theorem mt_joinS (hK : X.K = C.K) : MtR X "str.join" (rOM C fJoin) := by
  intro pins s σ H x xs v us Q I rx rs ⟨ρ, hd, dx, ds, sh, r1, rl, p⟩
  unfold fJoin at p
  split at p
  · rename_i a d
    split at p
    · rename_i ys e
      split at p
      · rename_i zs e2
        split at p
        · rename_i hz
          obtain ⟨w, rfl, r2⟩ := relL1 rl
          obtain ⟨rfl, _⟩ := of_str r1
          obtain ⟨b, vs, rfl, t, rl2, z⟩ := seq_of sh r2 e
          cases strs_of e2 rl2
          refine mt_join pins s σ H _ _ v us Q I rx rs ⟨a, b, zs, rfl, rfl, hK ▸ t, hz, ?_⟩
          show Q (.str (Builtin.Str.glued a zs)) H
          rw [StrLaws.glued_eq_join]
          exact p _ _ Ext.refl sh (rel_str (by rw [sizeLine_eq]; exact Nat.le_trans (join_len a zs) hz))
        · exact p.elim
      · exact p.elim
    · exact p.elim
  · exact p.elim
end
end EV


/-! EvI: calls of methods; what a loop walks; targets; list comprehensions. -/
namespace EV
open PySem PySem.Spec PyProof.Rows L2
section
variable {X : Cx} {C : Ctx} {W : WX} {pos cpos apos p2 : Pos} {a b c e o tg : Expr} {es rest : List Expr} {ma mb mo : M D} {ms : M (List D)} {ta tb : M Bool}
variable {ρ : RhoT} {H : Hp} {hd : Hd} {env : Env} {σ : L2.St}

/-! ### o.m(..) of a built-in type -/
def baseOk : Expr → Bool
  | .Call (.Name _ _) [] [] _ => false
  | _ => true
theorem base_of {name : Str} {env : PySem.Env} (h : baseOk o = true) : attributeBase o name env (eval o env) = eval o env := by
  cases o with
  | Call f as ks p =>
    cases f with
    | Name x p1 =>
      cases as with
      | nil =>
        cases ks with
        | nil => cases h
        | cons _ _ => rfl
      | cons _ _ => rfl
    | _ => rfl
  | _ => rfl
theorem few_of {env : PySem.Env} (h : notStar e = true) : ((backTo cpos (starEach [e] env)).all (fun x => !x.1) && (backToKw cpos (keywordEach [] env)).all (fun x => x.1.isSome)
      && decide (([e] : List Expr).length + ([] : List Keyword).length + (if ([] : List Keyword).isEmpty then 0 else 1) < 30)) = true := by
  rw [starEach_at h]
  rfl
theorem ev_meth1 {g : D → Hd → Bool} {f : OpM} {name : Str} {T id : String} (pa : PlainAttrs T) (slot : Slot T name id) (hty : typeOf (.builtin id) = pure (.type "method_descriptor")) (hm : MtR X id (rOM C f))
    (hg : ∀ (ρ : RhoT) (H : Hp) (hd : Hd) (d : D) (v : V), SimH C ρ H hd → Rel C ρ H d v → g d hd = true → tyV X.K T v H) (ho : PE X o (tE C W mo)) (ha : PA X [e] (tL C W ms))
    (hb : baseOk o = true) (hs : notStar e = true) (hline : (apos.endLine == cpos.line) = true) : PE X (.Call (.Attribute o name apos) [e] [] cpos) (tE C W (mmeth g f mo ms)) :=
  weakE (pe_bm pa slot hty hm ho ha (base_of hb) (few_of hs) hline (starEach_at hs) rfl) fun σ H Q ⟨ρ, env, hd, er, sh, p⟩ => seqE er sh p fun v H1 ρ1 hd1 d x er1 sh1 r1 p1 => by
    split at p1
    · rename_i hg1
      exact ⟨hg _ _ _ _ _ sh1 r1 hg1, seqL er1 sh1 p1 fun ws H2 ρ2 hd2 ds x2 er2 sh2 r2 p2 => ⟨ρ2, hd2, d, ds, sh2, Rel.ext x2 _ _ r1, r2, p2.resM⟩⟩
    · exact p1.elim
theorem ev_meth0 {g : D → Hd → Bool} {f : OpM} {name : Str} {T id : String} (pa : PlainAttrs T) (slot : Slot T name id) (hty : typeOf (.builtin id) = pure (.type "method_descriptor")) (hm : MtR X id (rOM C f))
    (hg : ∀ (ρ : RhoT) (H : Hp) (hd : Hd) (d : D) (v : V), SimH C ρ H hd → Rel C ρ H d v → g d hd = true → tyV X.K T v H) (ho : PE X o (tE C W mo))
    (hb : baseOk o = true) (hline : (apos.endLine == cpos.line) = true) : PE X (.Call (.Attribute o name apos) [] [] cpos) (tE C W (mmeth g f mo mnil)) :=
  weakE (pe_bm0 pa slot hty hm ho (base_of hb) hline) fun σ H Q ⟨ρ, env, hd, er, sh, p⟩ => seqE er sh p fun v H1 ρ1 hd1 d x er1 sh1 r1 p1 => by
    split at p1
    · rename_i hg1
      exact ⟨hg _ _ _ _ _ sh1 r1 hg1, ρ1, hd1, d, [], sh1, r1, RelL.nil, p1.resM⟩
    · exact p1.elim
theorem isLst_ty (hK : X.K = C.K) (ρ : RhoT) (H : Hp) (hd : Hd) (d : D) (v : V) (sh : SimH C ρ H hd) (r : Rel C ρ H d v) (h : isLst d hd = true) : tyV X.K "list" v H := by
  unfold isLst at h
  cases q : lstOf d hd with
  | none => rw [q] at h; cases h
  | some xs =>
    obtain ⟨a, vs, rfl, t, _⟩ := lst_of sh r q
    exact .inl ⟨rfl, vs, .of t⟩
theorem isStr_ty (ρ : RhoT) (H : Hp) (hd : Hd) (d : D) (v : V) (sh : SimH C ρ H hd) (r : Rel C ρ H d v) (h : isStr d hd = true) : tyV X.K "str" v H := by
  cases d with
  | str z => obtain ⟨rfl, _⟩ := of_str r; exact rfl
  | _ => cases h

/-! ### what a loop walks -/
structure IRel (C : Ctx) (ρ : RhoT) (H : Hp) (items : List D) (J : It) : Prop where
  len : items.length ≤ sizeLine
  go : ∀ (ρ' : RhoT) (H' : Hp) (i : Nat), Keeps ρ ρ' H H' → i < items.length → J.go i H'
  yld : ∀ (ρ' : RhoT) (H' : Hp) (i : Nat) (x : V) (H'' : Hp) (hd' : Hd) (d : D), Keeps ρ ρ' H H' → SimH C ρ' H' hd' → items[i]? = some d → J.yld i H' x H'' → Ext ρ' ρ' H' H'' ∧ SimH C ρ' H'' hd' ∧ Rel C ρ' H'' d x
  stop : ∀ (ρ' : RhoT) (H' : Hp), Keeps ρ ρ' H H' → J.stop items.length H'
abbrev MI := M (List D)
def tI (C : Ctx) (W : WX) (m : MI) : TI := fun σ H R => ∃ ρ env hd, EnvRel C ρ H env σ ∧ SimH C ρ H hd ∧ PostX C (IRel C) ρ H (fun c d H' => W c d σ H') R (m env hd)
theorem weakI {t t' : TI} (h : PI X tg e t) (w : ∀ σ H Q, t' σ H Q → t σ H Q) : PI X tg e t' := ⟨fun pins s σ H Q I q => h.run pins s σ H Q I (w σ H Q q)⟩
theorem orI {t t' : TI} (h : PI X tg e t) (h' : PI X tg e t') : PI X tg e (fun σ H Q => t σ H Q ∨ t' σ H Q) := ⟨fun pins s σ H Q I q => q.elim (h.run pins s σ H Q I) (h'.run pins s σ H Q I)⟩
def itemsOf : D → Option (List D)
  | .tup xs => some xs
  | .lst xs => some xs
  | .scr ns => some (ns.map .int)
  | .str s => some (s.cps.toList.map fun c => .str ⟨#[c]⟩)
  | _ => none
def iseq (a : M D) : MI := fun env h => (a env h).bind fun x h1 => match itemsOf x with
  | some xs => .ok xs h1
  | none => .bad
/-- range(n), range(a, b) -/
def irange1 : List D → Option (List D)
  | [.int j] => if -(2 ^ 62) ≤ j ∧ j ≤ 16777216 then some ((List.range j.toNat).map fun k : Nat => .int (k : Int)) else none
  | _ => none
def irange2 : List D → Option (List D)
  | [.int i, .int j] => if -16777216 ≤ i ∧ i ≤ 16777216 ∧ -16777216 ≤ j ∧ j - i ≤ 16777216 then some ((List.range (j - i).toNat).map fun k : Nat => .int (i + (k : Int))) else none
  | _ => none
def irng (f : List D → Option (List D)) (as : M (List D)) : MI := fun env h => (as env h).bind fun xs h1 => match f xs with
  | some ys => .ok ys h1
  | _ => .bad
theorem irel_list {xs : List D} {a : Addr} {vs : List V} (hs : ∀ ρ' H', Keeps ρ ρ' H H' → SqL C.K H' a vs) (r : RelL C ρ H xs vs) (hz : xs.length ≤ sizeLine) : IRel C ρ H xs (Itl C.K a) where
  len := hz
  go := fun ρ' H' i k hi => by
    have hl := r.length
    exact ⟨vs, vs[i]'(by omega), hs ρ' H' k, by simp⟩
  yld := fun ρ' H' i x H'' hd' d k s e ⟨e1, e2⟩ => by
    subst e1
    obtain ⟨v, h1, h2⟩ := r.get e
    have := e2 vs (hs ρ' H'' k)
    rw [h1] at this; cases this
    exact ⟨Ext.refl, s, Rel.keeps k _ _ h2⟩
  stop := fun ρ' H' k => ⟨vs, hs ρ' H' k, by rw [r.length]; exact Nat.le_refl _⟩
theorem irel_tup {xs : List D} {a : Addr} {vs : List V} (hs : ∀ ρ' H', Keeps ρ ρ' H H' → SqT C.K H' a vs) (r : RelL C ρ H xs vs) (hz : xs.length ≤ sizeLine) : IRel C ρ H xs (Itt C.K a) where
  len := hz
  go := fun ρ' H' i k hi => by
    have hl := r.length
    exact ⟨vs, vs[i]'(by omega), hs ρ' H' k, by simp⟩
  yld := fun ρ' H' i x H'' hd' d k s e ⟨e1, e2⟩ => by
    subst e1
    obtain ⟨v, h1, h2⟩ := r.get e
    have := e2 vs (hs ρ' H'' k)
    rw [h1] at this; cases this
    exact ⟨Ext.refl, s, Rel.keeps k _ _ h2⟩
  stop := fun ρ' H' k => ⟨vs, hs ρ' H' k, by rw [r.length]; exact Nat.le_refl _⟩
theorem irel_range {lo : Int} {n : Nat} (hz : n ≤ sizeLine) : IRel C ρ H ((List.range n).map fun k : Nat => .int (lo + (k : Int))) (Itr lo n) where
  len := by simpa using hz
  go := fun ρ' H' i k hi => by show i < n; simpa using hi
  yld := fun ρ' H' i x H'' hd' d k s e ⟨e1, e2⟩ => by
    subst e1 e2
    have hi : i < n := by simpa using (List.getElem?_eq_some_iff.mp e).1
    rw [List.getElem?_map, List.getElem?_range hi] at e
    cases e; exact ⟨Ext.refl, s, rel_int⟩
  stop := fun ρ' H' k => by show n ≤ _; simp
theorem irel_str {z : Str} (hz : z.length ≤ sizeLine) : IRel C ρ H (z.cps.toList.map fun c => .str ⟨#[c]⟩) (Its z) where
  len := by rw [List.length_map, Array.length_toList]; exact hz
  go := fun ρ' H' i k hi => by show i < z.cps.size; simpa using hi
  yld := fun ρ' H' i x H'' hd' d k s e ⟨e1, c, e2, e3⟩ => by
    subst e1 e3
    rw [List.getElem?_map, Array.getElem?_toList, e2] at e
    cases e
    exact ⟨Ext.refl, s, rel_str (by show 1 ≤ sizeLine; rw [sizeLine_eq]; decide)⟩
  stop := fun ρ' H' k => by show z.cps.size ≤ _; simp
theorem evi_seq (hK : X.K = C.K) (he : PE X e (tE C W ma)) : PI X tg e (tI C W (iseq ma)) :=
  weakI (orI (pi_list he) (orI (pi_tup he) (pi_str he))) fun σ H R ⟨ρ, env, hd, er, sh, p⟩ => by
    cases hm : ma env hd with
    | bad => unfold iseq at p; rw [hm] at p; exact p.elim
    | exc x h =>
      refine .inl ⟨ρ, env, hd, er, sh, ?_⟩
      unfold iseq at p
      rw [hm] at p ⊢
      exact p
    | ok d h =>
      have pw := p
      unfold iseq at pw
      rw [hm] at pw
      have mk : ∀ {Q' : VK}, (∀ ρ' H' v, Ext ρ ρ' H H' → SimH C ρ' H' h → Rel C ρ' H' d v → Q' v H') → tE C W ma σ H Q' := fun q => ⟨ρ, env, hd, er, sh, by rw [hm]; exact q⟩
      cases d with
      | tup xs =>
        refine .inr (.inl (mk fun ρ1 H1 v x s r => ?_))
        have r0 := r
        simp only [Rel] at r
        obtain ⟨a, vs, rfl, t, rl, z⟩ := r
        exact ⟨a, rfl, ⟨vs, hK ▸ t.sq⟩, hK ▸ pw ρ1 H1 _ x s (irel_tup (fun ρ' H' k => (t.keeps k).sq) rl z)⟩
      | lst xs =>
        refine .inl (mk fun ρ1 H1 v x s r => ?_)
        simp only [Rel] at r
        obtain ⟨a, vs, rfl, t, rl, z⟩ := r
        exact ⟨a, rfl, ⟨vs, .of t.1⟩, hK ▸ pw ρ1 H1 _ x s (irel_list (fun ρ' H' k => .of (k.frz _ _ t.1 t.2).1) rl z)⟩
      | scr ns =>
        refine .inl (mk fun ρ1 H1 v x s r => ?_)
        simp only [Rel] at r
        obtain ⟨a, rfl, t, z⟩ := r
        exact ⟨a, rfl, ⟨_, hK ▸ t.sq⟩, hK ▸ pw ρ1 H1 _ x s (irel_list (fun ρ' H' k => (t.keeps k).sq) relL_ints (by simpa using z))⟩
      | str z =>
        refine .inr (.inr (mk fun ρ1 H1 v x s r => ?_))
        exact ⟨z, (of_str r).1, pw ρ1 H1 _ x s (irel_str (of_str r).2)⟩
      | _ => exact pw.elim
theorem evi_range1 {p q : Pos} (hg : Gl X "range") (hm : X.mg "range" = none) (ha : PA X [a] (tL C W ms)) (hs : notStar a = true) : PI X tg (.Call (.Name "range" p) [a] [] q) (tI C W (irng irange1 ms)) :=
  weakI (pi_range1 hg hm ha (starEach_at hs)) fun σ H R ⟨ρ, env, hd, er, sh, p⟩ => by
    refine ⟨ρ, env, hd, er, sh, ?_⟩
    unfold irng at p
    refine (PostX.bind (R1 := RelL C) p).imp (fun vs H1 ⟨ρ1, hd1, ds, x, s, r, q⟩ => ?_) fun _ _ _ z => z
    unfold irange1 at q
    split at q
    · rename_i ys e
      split at e
      · rename_i j
        split at e
        · rename_i hj
          cases e
          obtain ⟨v, rfl, r1⟩ := relL1 r
          cases of_int r1
          refine ⟨j, rfl, hj.1, by omega, ?_⟩
          have ir : IRel C ρ1 H1 ((List.range j.toNat).map fun k : Nat => .int (0 + (k : Int))) (Itr 0 j.toNat) := irel_range (by rw [sizeLine_eq]; omega)
          simp only [Int.zero_add] at ir
          exact q.here s ir
        · cases e
      · cases e
    · exact q.elim
theorem evi_range2 {p q : Pos} (hg : Gl X "range") (hm : X.mg "range" = none) (ha : PA X [a, b] (tL C W ms)) (hs : notStar a = true) (hs2 : notStar b = true) : PI X tg (.Call (.Name "range" p) [a, b] [] q) (tI C W (irng irange2 ms)) :=
  weakI (pi_range2 hg hm ha (by rw [starEach_at hs, starEach_at hs2]; rfl) (starEach_at hs2)) fun σ H R ⟨ρ, env, hd, er, sh, p⟩ => by
    refine ⟨ρ, env, hd, er, sh, ?_⟩
    unfold irng at p
    refine (PostX.bind (R1 := RelL C) p).imp (fun vs H1 ⟨ρ1, hd1, ds, x, s, r, q⟩ => ?_) fun _ _ _ z => z
    unfold irange2 at q
    split at q
    · rename_i ys e
      split at e
      · rename_i i j
        split at e
        · rename_i hj
          cases e
          obtain ⟨v, w, rfl, r1, r2⟩ := relL2 r
          cases of_int r1; cases of_int r2
          exact ⟨i, j, rfl, by omega, q.here s (irel_range (by rw [sizeLine_eq]; omega))⟩
        · cases e
      · cases e
    · exact q.elim

/-! ### targets -/
abbrev MG := D → Env → Hd → Option (Env × Hd)
/-- sl: the slots that it sets -/
def tG (C : Ctx) (sl : List Nat) (f : MG) : TG := fun v σ H Q => ∃ ρ env hd d, EnvRel C ρ H env σ ∧ SimH C ρ H hd ∧ Rel C ρ H d v ∧
  match f d env hd with
  | none => False
  | some (env', hd') => ∀ ρ' H' σ', Ext ρ ρ' H H' → SimH C ρ' H' hd' → EnvRel C ρ' H' env' σ' → (σ'.length = σ.length ∧ ∀ j : Nat, j ∉ sl → σ'[j]? = σ[j]?) → Q σ' H'
def gname (i : Nat) : MG := fun d env h => some (env.set i (some d), h)
def gtup (gs : List MG) : MG := fun d env h => match d with
  | .tup xs => if xs.length = gs.length then go gs xs env h else none
  | .lst xs => if xs.length = gs.length then go gs xs env h else none
  | _ => none
where go : List MG → List D → Env → Hd → Option (Env × Hd)
  | g :: gs, x :: xs, env, h => match g x env h with
    | some (env', h') => go gs xs env' h'
    | none => none
  | _, _, env, h => some (env, h)
def tGs (C : Ctx) (sl : List Nat) (gs : List MG) : TGs := fun vs σ H Q => ∃ ρ env hd ds, EnvRel C ρ H env σ ∧ SimH C ρ H hd ∧ RelL C ρ H ds vs ∧ ds.length = gs.length ∧
  match gtup.go gs ds env hd with
  | none => False
  | some (env', hd') => ∀ ρ' H' σ', Ext ρ ρ' H H' → SimH C ρ' H' hd' → EnvRel C ρ' H' env' σ' → (σ'.length = σ.length ∧ ∀ j : Nat, j ∉ sl → σ'[j]? = σ[j]?) → Q σ' H'
theorem weakG {t t' : TG} (h : PG X tg t) (w : ∀ v σ H Q, t' v σ H Q → t v σ H Q) : PG X tg t' := ⟨fun pins s σ H v u Q I r q => h.run pins s σ H v u Q I r (w v σ H Q q)⟩
theorem weakGs {ts : List Expr} {t t' : TGs} (h : PGs X ts t) (w : ∀ v σ H Q, t' v σ H Q → t v σ H Q) : PGs X ts t' := ⟨fun pins s σ H v u Q I r q => h.run pins s σ H v u Q I r (w v σ H Q q)⟩
theorem evg_name {i : Nat} (h : PG X tg (gName i)) : PG X tg (tG C [i] (gname i)) := weakG h fun v σ H Q ⟨ρ, env, hd, d, er, sh, r, q⟩ =>
  q ρ H _ Ext.refl sh (er.set i r) ⟨by simp, fun j hj => List.getElem?_set_ne (fun z => hj (by simp [z]))⟩
theorem evgs_nil : PGs X [] (tGs C [] []) := weakGs pgs_nil fun vs σ H Q ⟨ρ, env, hd, ds, er, sh, r, hl, q⟩ => by
  have e : ds = [] := by simpa using hl
  subst e
  rw [RelL.nil_iff] at r
  exact ⟨r, q ρ H σ Ext.refl sh er ⟨rfl, fun _ _ => rfl⟩⟩
theorem assign_at {env : PySem.Env} (h : notStar e = true) : (assignEach (e :: es) env).map (·.2) = assign e env :: (assignEach es env).map (·.2) := by
  cases e <;> first | rfl | cases h
theorem evgs_cons {s1 s2 : List Nat} {g : MG} {gs : List MG} (h1 : PG X e (tG C s1 g)) (h2 : PGs X es (tGs C s2 gs)) (hs : notStar e = true) : PGs X (e :: es) (tGs C (s1 ++ s2) (g :: gs)) :=
  weakGs (pgs_cons h1 h2 (assign_at hs)) fun vs σ H Q ⟨ρ, env, hd, ds, er, sh, r, hl, q⟩ => by
    cases ds with
    | nil => simp at hl
    | cons d ds =>
      simp only [RelL] at r
      obtain ⟨v, vr, rfl, r1, r2⟩ := r
      refine ⟨v, vr, rfl, ρ, env, hd, d, er, sh, r1, ?_⟩
      unfold gtup.go at q
      cases hg : g d env hd with
      | none => rw [hg] at q; exact q
      | some p =>
        obtain ⟨env', hd'⟩ := p
        rw [hg] at q
        intro ρ' H' σ' x s er' hl'
        refine ⟨ρ', env', hd', ds, er', s, RelL.ext x _ _ r2, by simpa using hl, ?_⟩
        dsimp only at q
        cases hr : gtup.go gs ds env' hd' with
        | none => rw [hr] at q; exact q
        | some p2 =>
          rw [hr] at q
          exact fun ρ2 H2 σ2 y s2 e2 l2 => q ρ2 H2 σ2 (x.trans y) s2 e2 ⟨l2.1.trans hl'.1, fun j hj => (l2.2 j fun z => hj (List.mem_append_right _ z)).trans (hl'.2 j fun z => hj (List.mem_append_left _ z))⟩
def noStar2 (es : List Expr) : Bool := es.all notStar
theorem findStar {env : PySem.Env} : ∀ {es : List Expr}, noStars es = true → (assignEach es env).findIdx? (·.1) = none ∧ (assignEach es env).length = es.length
  | [], _ => ⟨rfl, rfl⟩
  | e :: es, h => by
    unfold noStars at h
    rw [Bool.and_eq_true] at h
    obtain ⟨i1, i2⟩ := findStar (env := env) h.2
    have e1 : assignEach (e :: es) env = (false, assign e env) :: assignEach es env := by
      have := h.1
      cases e <;> first | rfl | cases this
    rw [e1]
    refine ⟨?_, by simp [i2]⟩
    rw [List.findIdx?_cons, i1]
    rfl
theorem orG {tg : Expr} {t t' : TG} (h : PG X tg t) (h' : PG X tg t') : PG X tg (fun v σ H Q => t v σ H Q ∨ t' v σ H Q) := ⟨fun pins s σ H v u Q I r q => q.elim (h.run pins s σ H v u Q I r) (h'.run pins s σ H v u Q I r)⟩
theorem evg_tup {sl : List Nat} {gs : List MG} {k : Nat} (hK : X.K = C.K) (hc : X.calm = true) (h : PGs X es (tGs C sl gs)) (hs : noStars es = true) (hl : es.length = gs.length) : PG X (.Tuple es k pos) (tG C sl (gtup gs)) :=
  weakG (orG (pg_tup hc h (n := gs.length) (by rw [(findStar hs).2, hl]) (findStar hs).1) (pg_unl hc h (n := gs.length) (by rw [(findStar hs).2, hl]) (findStar hs).1)) fun v σ H Q ⟨ρ, env, hd, d, er, sh, r, q⟩ => by
    unfold gtup at q
    cases d with
    | tup xs =>
      left
      dsimp only at q
      split at q
      · exact q.elim
      · rename_i env' hd' hx
        split at hx
        · rename_i hl2
          obtain ⟨a, vs, rfl, t, rl, z⟩ := tup_of r
          refine ⟨a, vs, rfl, hK ▸ t, by rw [← rl.length]; exact hl2, ρ, env, hd, xs, er, sh, rl, hl2, ?_⟩
          rw [hx]
          exact q
        · cases hx
    | lst xs =>
      right
      dsimp only at q
      split at q
      · exact q.elim
      · rename_i env' hd' hx
        split at hx
        · rename_i hl2
          simp only [Rel] at r
          obtain ⟨a, vs, rfl, t, rl, z⟩ := r
          refine ⟨a, vs, rfl, .of t.1, by rw [← rl.length]; exact hl2, ρ, env, hd, xs, er, sh, rl, hl2, ?_⟩
          rw [hx]
          exact q
        · cases hx
    | _ => exact q.elim
end
end EV


/-! EvJ: targets with a star, o[i] = v. -/
namespace EV
open PySem PySem.Spec PyProof.Rows L2

/-- a, .., *r = a tuple -/
theorem star_items {prog : Program} {w : World} {A : Around} {E : Value → Shared → Prop} {s : Shared} {t : Addr} {items : Array Value} {k : Nat} {Q : List Value → Shared → Prop}
    (hh : A.handled = none) (ht : IsTup s.heap t items) (hk : k ≤ items.size) (hz : items.size ≤ sizeLine)
    (hQ : ∀ (h' : Heap) (tk : Nat), (∀ b o, s.heap.get? b = some o → h'.get? b = some o) →
      Q (items.toList.take k ++ [.ref h'.objs.size]) { s with heap := h'.push { cls := .type "list", data := .seq (items.toList.drop k).toArray }, toks := tk }) :
    wpAny (model prog w) A (unpackItems (.ref t) (k + 1) (some k)) Q E s := by
  have q0 : t ≠ s.heap.objs.size := by
    obtain ⟨o, e, _⟩ := ht
    exact Nat.ne_of_lt (Heap.lt_size e)
  unfold unpackItems notIterableAtAll
  refine wpAny_bind (wpAny_bind (wpAny_specialOf ht.typeIs slot_tuple_iter.lookup (wpAny_pure ?_)))
  simp only [Bool.false_eq_true, if_false]
  refine wpAny_bind (wpAny_holding (iter_tuple ht (wpAny_bind (wpAny_holding (draw_tuple q0 k 0 _ _ ⟨_, Heap.get?_push_size _ rfl, rfl, rfl⟩ (ht.push _) (by omega) fun g1 it1 sb1 => ?_)))))
  have ht1 : IsTup g1 t items := (ht.push _).extBut sb1.extBut q0
  rw [Nat.zero_add] at it1
  rw [List.drop_zero]
  have hl : (items.toList.take k).length = k := by rw [List.length_take, Array.length_toList]; omega
  rw [if_neg (by rw [hl]; exact Nat.lt_irrefl _)]
  have a1 : s.heap.objs.size < g1.objs.size := by obtain ⟨o, e, _⟩ := it1; exact Heap.lt_size e
  have a2 : t < g1.objs.size := by obtain ⟨o, e, _⟩ := ht1; exact Heap.lt_size e
  have W := Walks.tuple (prog := prog) (w := w) (A := A.in1) hh s.heap.objs.size t q0 items
  refine wpAny_bind (wpAny_holding (PySem.W.kun_collect (s := { s with heap := g1 }) (T := "tuple_iterator") (.inr (.inr (.inr rfl))) W (fun j u st => st.1.typeIs) hk ⟨it1, ht1⟩ a1 a2 (fun g2 tk kp => ?_) hz))
  have e0 : k + 1 - 1 - k = 0 := by omega
  rw [e0, if_neg (Nat.not_lt_zero _)]
  simp only [Nat.sub_zero]
  have a3 : t < g2.objs.size := by
    obtain ⟨o, e, _⟩ := ht1
    exact Heap.lt_size (kp t o q0 e)
  have kept : ∀ b o, s.heap.get? b = some o → g2.get? b = some o := fun b o e => by
    have nb : b ≠ s.heap.objs.size := Nat.ne_of_lt (Heap.lt_size e)
    exact kp b o nb (sb1.extBut b o nb (Heap.get?_push_of_some _ e))
  have hd1 : (items.toList.drop k).take (items.toList.drop k).length = items.toList.drop k := List.take_length
  have hd2 : (items.toList.drop k).drop (items.toList.drop k).length = [] := List.drop_length
  rw [hd1, hd2]
  refine wpAny_bind (wpAny_newList ?_ (by rw [List.length_drop, Array.length_toList]; omega))
  rw [List.append_nil]
  exact wpAny_pure (hQ g2 tk kept)

section
variable {X : Cx} {C : Ctx} {W : WX} {pos cpos apos p2 : Pos} {a b c e o tg t i : Expr} {es rest : List Expr} {ma mb mo mi : M D} {ms : M (List D)} {ta tb : M Bool}
variable {ρ : RhoT} {H : Hp} {hd : Hd} {env : Env} {σ : L2.St}
/-- a, .., *r: what is left over is a new list -/
def gstar (gs : List MG) : MG := fun d env h => match d with
  | .tup xs => if gs.length ≤ xs.length + 1 ∧ 0 < gs.length then gtup.go gs (xs.take (gs.length - 1) ++ [.lst (xs.drop (gs.length - 1))]) env h else none
  | _ => none
theorem assign_stars {env : PySem.Env} {p : Pos} : ∀ {es : List Expr}, noStars (es ++ [t]) = true →
    (assignEach (es ++ [.Starred t p]) env).map (·.2) = (assignEach (es ++ [t]) env).map (·.2) ∧ (assignEach (es ++ [.Starred t p]) env).findIdx? (·.1) = some es.length ∧ (assignEach (es ++ [.Starred t p]) env).length = es.length + 1
  | [], h => by
    have h1 : notStar t = true := by
      have : (notStar t && true) = true := h
      simpa using this
    refine ⟨?_, rfl, rfl⟩
    cases t <;> first | rfl | cases h1
  | e :: es, h => by
    have h' : (notStar e && noStars (es ++ [t])) = true := h
    rw [Bool.and_eq_true] at h'
    obtain ⟨i1, i2, i3⟩ := assign_stars (env := env) (p := p) h'.2
    have f1 : ∀ l : List Expr, assignEach (e :: l) env = (false, assign e env) :: assignEach l env := fun l => by
      have := h'.1
      cases e <;> first | rfl | cases this
    rw [List.cons_append, List.cons_append, f1, f1]
    refine ⟨by rw [List.map_cons, List.map_cons, i1], ?_, by rw [List.length_cons, i3]; rfl⟩
    rw [List.findIdx?_cons, i2]
    rfl
/-- the target's reading, by values -/
def gStarV (K : PySem.W.Frag) (n : Nat) (t : TGs) : TG := fun v σ H Q => ∃ a xs, v = .ref a ∧ SqT K H a xs ∧ n ≤ xs.length ∧ ∀ p, H p = none → t (xs.take n ++ [.ref p]) σ (upd H p (.lst (xs.drop n))) Q
theorem pg_star {k : Nat} {p : Pos} {tt : TGs} (hc : X.calm = true) (h : PGs X (es ++ [t]) tt) (hs : noStars (es ++ [t]) = true) : PG X (.Tuple (es ++ [.Starred t p]) k pos) (gStarV X.K es.length tt) := by
  refine ⟨fun pins s σ H v u Q I r hw => ?_⟩
  obtain ⟨a, xs, rfl, hq, hn, hw⟩ := hw
  cases r
  obtain ⟨its, rv, ht, hz⟩ := I.tuple hq
  obtain ⟨e1, e2, e3⟩ := assign_stars (env := X.env) (p := p) hs
  have hl := rv.length
  rw [assign_Tuple]
  refine wpAny_bind (wpAny_standAt ?_)
  unfold unpack
  rw [e1, e2, e3]
  refine wpAny_bind (wpAny_holding (star_items (I.ok.hd hc) ht (by simp only [List.size_toArray]; omega) (by simp only [List.size_toArray]; omega) fun h' tk kp => ?_))
  have I1 : L2.Inv X pins σ H { s with heap := h', toks := tk } := I.kept (t' := tk) kp
  have hf := I1.hok.fresh (Nat.le_refl h'.objs.size)
  have vd : Vals (xs.drop es.length) (its.drop es.length) := rv.drop _
  have I2 := I1.laid (t' := tk) (a := h'.objs.size) (o := .lst (xs.drop es.length)) (h' := h'.push { cls := .type "list", data := .seq (its.drop es.length).toArray }) (fun b u e => Heap.get?_push_of_some _ e) (Nat.le_refl _)
    ⟨by rw [List.length_drop]; omega, its.drop es.length, 0, vd, Heap.get?_push_size _ rfl⟩
  exact h.run pins _ σ _ _ _ Q I2 ((rv.take _).append (.cons (show RelV (V.ref h'.objs.size) (Value.ref h'.objs.size) from rfl) .nil)) (hw _ hf)
theorem evg_star {sl : List Nat} {gs : List MG} {k : Nat} {p : Pos} (hK : X.K = C.K) (hc : X.calm = true) (h : PGs X (es ++ [t]) (tGs C sl gs)) (hs : noStars (es ++ [t]) = true) (hl : es.length + 1 = gs.length) : PG X (.Tuple (es ++ [.Starred t p]) k pos) (tG C sl (gstar gs)) :=
  weakG (pg_star hc h hs) fun v σ H Q ⟨ρ, env, hd, d, er, sh, r, q⟩ => by
    unfold gstar at q
    cases d with
    | tup xs =>
      dsimp only at q
      split at q
      · exact q.elim
      · rename_i env' hd' hx
        split at hx
        · rename_i hl2
          obtain ⟨a, vs, rfl, f, rl, z⟩ := tup_of r
          have hn : gs.length - 1 = es.length := by omega
          have hlen := rl.length
          rw [hn] at hx
          refine ⟨a, vs, rfl, hK ▸ f, by omega, fun p' hp => ?_⟩
          have x := Ext.upd_new (ρ := ρ) (o := .lst (vs.drop es.length)) hp
          refine ⟨ρ, env, hd, _, er.ext x, sh.upd_new hp, (RelL.ext x _ _ (rl.take _)).append (RelL.cons (rel_lst sh hp (rl.drop _) (by rw [List.length_drop]; omega)) RelL.nil), by simp; omega, ?_⟩
          rw [hx]
          exact fun ρ' H' σ' y s e l => q ρ' H' σ' (x.trans y) s e l
        · cases hx
    | _ => exact q.elim

/-- o[i] = v, a list -/
def gsub (mo mi : M D) : MG := fun d env h => match mo env h with
  | .ok (.ref n) h1 => match mi env h1 with
    | .ok (.int k) h2 => match h2[n]? with
      | some (.lst xs) => if 0 ≤ k ∧ k < xs.length then some (env, h2.set n (.lst (xs.set k.toNat d))) else none
      | _ => none
    | _ => none
  | _ => none
def subOk : Expr → Bool
  | .Slice _ _ _ _ => false
  | _ => true
theorem assign_sub {v : Value} (h : subOk i = true) : assign (.Subscript o i pos) X.env v = (do
      let ov ← holding [v] (eval o X.env)
      let iv ← holding [v, ov] (eval i X.env)
      standAt pos
      holding [v, ov, iv] (setItem ov iv v)
      release [v, ov, iv] []) := by
  cases i <;> first | rfl | cases h
theorem evg_sub (ho : PE X o (tE C W mo)) (hi : PE X i (tE C W mi)) (hs : subOk i = true) : PG X (.Subscript o i pos) (tG C [] (gsub mo mi)) :=
  weakG (pg_sub ho hi set_list fun v => assign_sub hs) fun v σ H Q ⟨ρ, env, hd, d, er, sh, r, q⟩ => by
    unfold gsub at q
    split at q
    · exact q.elim
    · rename_i env' hd' hx
      split at hx
      · rename_i n h1 e1
        split at hx
        · rename_i k h2 e2
          split at hx
          · rename_i xs hn
            split at hx
            · rename_i hk
              cases hx
              refine ⟨ρ, env, hd, er, sh, ?_⟩
              rw [e1]
              intro ρ1 H1 v1 x1 sh1 r1
              refine ⟨ρ1, env, h1, er.ext x1, sh1, ?_⟩
              rw [e2]
              intro ρ2 H2 v2 x2 sh2 r2
              cases of_int r2
              obtain ⟨a, vs, rfl, f, t, rl, z⟩ := ref_lst sh2 (Rel.ext x2 _ _ r1) hn
              have hl := rl.length
              refine ⟨a, vs, k, k.toNat, rfl, rfl, t, by unfold ixN; rw [if_pos hk.1, if_pos (by omega)], ?_⟩
              have x3 := Ext.store (o := .lst (vs.set k.toNat v)) f t
              exact q ρ2 _ σ ((x1.trans x2).trans x3) (sh2.store f t (rl.set (Rel.ext (x1.trans x2) _ _ r) _) (by simpa using z)) (er.ext ((x1.trans x2).trans x3)) ⟨rfl, fun _ _ => rfl⟩
            · cases hx
          · cases hx
        · cases hx
      · cases hx
end
end EV


/-! EvK: list comprehensions. -/
namespace EV
open PySem PySem.Spec PyProof.Rows L2

def wipeE (env : Env) : List Nat → Env
  | [] => env
  | v :: vs => (wipeE env vs).set v none
def compLoop (g : MG) (cond : M Bool) (elt : M D) (env0 : Env) : List D → List D → Hd → Option (List D × Hd)
  | [], acc, h => some (acc, h)
  | x :: xs, acc, h => match g x env0 h with
    | none => none
    | some (env1, h1) => match cond env1 h1 with
      | .ok true h2 => match elt env1 h2 with
        | .ok y h3 => compLoop g cond elt env0 xs (acc ++ [y]) h3
        | _ => none
      | .ok false h2 => compLoop g cond elt env0 xs acc h2
      | _ => none
def mcomp (m : Bool) (own : List Nat) (it : MI) (g : MG) (cond : M Bool) (elt : M D) : M D := fun env h => (it env h).bind fun items h1 =>
  match compLoop g cond elt (wipeE env own) items [] h1 with
  | some (acc, h2) => fin m (some (.new acc)) h2
  | none => .bad
def yes : M Bool := fun _ h => .ok true h

abbrev W0 : WX := fun _ _ _ _ => False
section
variable {X : Cx} {C : Ctx} {W : WX} {pos cpos apos p2 : Pos} {a b c e o tg t i elt iter : Expr} {es rest ifs : List Expr} {ma mb mo mi : M D} {ms : M (List D)} {ta tb : M Bool}
variable {ρ ρ' ρ'' : RhoT} {H H' H'' : Hp} {hd : Hd} {env : Env} {σ : L2.St}
theorem EnvRel.wipe (h : EnvRel C ρ H env σ) : ∀ vs : List Nat, EnvRel C ρ H (wipeE env vs) (wipe σ vs)
  | [] => h
  | v :: vs => (EnvRel.wipe h vs).forget v
theorem wipe_same {σ σ' : L2.St} {vs sl : List Nat} (hsub : ∀ j ∈ sl, j ∈ vs) (hl : σ'.length = (wipe σ vs).length) (h : ∀ j : Nat, j ∉ sl → σ'[j]? = (wipe σ vs)[j]?) : wipe σ' vs = wipe σ vs := by
  have get : ∀ (σ : L2.St) (vs : List Nat) (j : Nat), (L2.wipe σ vs)[j]? = if j ∈ vs ∧ j < σ.length then some none else σ[j]? := by
    intro σ vs
    induction vs with
    | nil => intro j; simp [L2.wipe]
    | cons v vs ih =>
      intro j
      unfold L2.wipe
      by_cases hv : v = j
      · subst hv
        by_cases hj : v < σ.length
        · rw [List.getElem?_set_self (by rw [wipe_length]; exact hj), if_pos ⟨List.mem_cons_self, hj⟩]
        · rw [List.getElem?_eq_none (by rw [List.length_set, wipe_length]; omega), if_neg (fun z => hj z.2), List.getElem?_eq_none (by omega)]
      · rw [List.getElem?_set_ne hv, ih j]
        have : j ∈ v :: vs ↔ j ∈ vs := by simp [Ne.symm hv]
        simp only [this]
  rw [wipe_length] at hl
  apply List.ext_getElem?
  intro j
  rw [get σ' vs j, get σ vs j, hl]
  by_cases hj : j ∈ vs ∧ j < σ.length
  · rw [if_pos hj, if_pos hj]
  · rw [if_neg hj, if_neg hj]
    by_cases hs : j ∈ sl
    · have : ¬ j < σ.length := fun z => hj ⟨hsub j hs, z⟩
      rw [List.getElem?_eq_none (by omega), List.getElem?_eq_none (by omega)]
    · rw [h j hs, get σ vs j, if_neg hj]

theorem Ext.keepsHide {p : Addr} (x : Ext ρ ρ' H H') (hp : H p = none) : Keeps ρ (ρ'.hide p) H H' :=
  ⟨fun a o h f => ⟨x.keep a o h f.1, (show Unr ρ' a from f.1.ext x h), fun z => by
    rcases List.mem_cons.mp z with z | z
    · exact ne_of_none h hp z
    · rw [x.hid] at z; exact f.2 z⟩, x.old⟩
theorem Ext.unhide {p : Addr} {ρ5 : Rho} (x : Ext (ρ'.hide p) ρ5 H' H'') : Ext ρ' ⟨ρ5.r, ρ'.hid⟩ H' H'' := ⟨x.le, x.old, x.new, x.keep, x.dom, rfl⟩
theorem Ext.grow {p : Addr} {o : HO} (x : Ext ρ ρ' H H') (hp : H p = none) : Ext ρ ρ' H (upd H' p o) where
  le := x.le
  old := x.old
  new := x.new
  keep := fun a u e f => by rw [upd_ne (ne_of_none e hp)]; exact x.keep a u e f
  dom := fun a e => by
    by_cases q : a = p
    · rw [q]; exact hp
    · rw [upd_ne q] at e; exact x.dom a e
  hid := x.hid

/-- the state of a comprehension: the list so far stands at p, out of sight -/
structure CompSt (C : Ctx) (ρ1 : RhoT) (H1 : Hp) (p : Addr) (ρ' : RhoT) (H' : Hp) (hd' : Hd) (acc : List D) : Prop where
  ext : Ext ρ1 ρ' H1 H'
  sim : SimH C (ρ'.hide p) H' hd'
  lst : ∃ vs, H' p = some (.lst vs) ∧ RelL C (ρ'.hide p) H' acc vs
theorem comp_ok {own : List (Str × Nat)} {m : Bool} {sl : List Nat} {g : MG} {mi : MI} {tt : TT} {cond : M Bool} {me : M D}
    (hc : X.calm = true) (hN : X.N.Nodup) (hsl : ∀ j ∈ sl, j ∈ own.map (·.2))
    (ht : ∀ σ H Q, tT C W0 cond σ H Q → tt σ H Q) {Q : VK} (h : tE C W (mcomp m (own.map (·.2)) mi g cond me) σ H Q) : tLc (tI C W mi) (tG C sl g) tt (tE C W0 me) (own.map (·.2)) σ H Q := by
  obtain ⟨ρ, env, hd, er, sh, p⟩ := h
  refine ⟨ρ, env, hd, er, sh, (PostX.bind (R1 := IRel C) p).imp (fun J H1 ⟨ρ1, hd1, items, x1, s1, ir, q⟩ => ?_) fun _ _ _ z => z⟩
  have er1 := er.ext x1
  intro D hD
  cases hcl : compLoop g cond me (wipeE env (own.map (·.2))) items [] hd1 with
  | none => rw [hcl] at q; exact q.elim
  | some r =>
    obtain ⟨accF, hF⟩ := r
    rw [hcl] at q
    have hDh : D ∉ ρ1.hid := fun z => s1.hidS D z hD
    refine ⟨fun i k H' => k = items.length - i ∧ i ≤ items.length ∧ ∃ ρ' hd' acc, CompSt C ρ1 H1 D ρ' H' hd' acc ∧ acc.length ≤ i ∧ compLoop g cond me (wipeE env (own.map (·.2))) (items.drop i) acc hd' = some (accF, hF),
      ⟨_, rfl, Nat.zero_le _, ρ1, hd1, [], ⟨Ext.upd_new hD, s1.hide hD, [], upd_same, RelL.nil⟩, Nat.le_refl _, hcl⟩, ?_⟩
    rintro i k H' ⟨rfl, hi, ρ', hd', acc, st, hacc, hloop⟩
    have kp : Keeps ρ1 (ρ'.hide D) H1 H' := st.ext.keepsHide hD
    by_cases hlt : i < items.length
    · refine .inr ⟨ir.go _ H' i kp hlt, fun H' => ∃ ρ' hd' acc, CompSt C ρ1 H1 D ρ' H' hd' acc ∧ acc.length ≤ i + 1 ∧ compLoop g cond me (wipeE env (own.map (·.2))) (items.drop (i + 1)) acc hd' = some (accF, hF),
        fun H2 ⟨ρ2, hd2, acc2, s2, l2, c2⟩ => ⟨items.length - (i + 1), by omega, rfl, hlt, ρ2, hd2, acc2, s2, l2, c2⟩, fun x H2 hy => ?_⟩
      obtain ⟨y1, y2, y3⟩ := ir.yld _ H' i x H2 hd' (items[i]) kp st.sim (List.getElem?_eq_getElem hlt) hy
      have er2 : EnvRel C (ρ'.hide D) H2 (wipeE env (own.map (·.2))) (wipe σ (own.map (·.2))) := ((er1.keeps kp).ext y1).wipe _
      have hdr : items.drop i = items[i] :: items.drop (i + 1) := List.drop_eq_getElem_cons hlt
      rw [hdr] at hloop
      unfold compLoop at hloop
      cases hg : g items[i] (wipeE env (own.map (·.2))) hd' with
      | none => rw [hg] at hloop; cases hloop
      | some r1 =>
        obtain ⟨env1, h1⟩ := r1
        rw [hg] at hloop
        refine ⟨ρ'.hide D, wipeE env (own.map (·.2)), hd', items[i], er2, y2, y3, ?_⟩
        rw [hg]
        intro ρ3 H3 σ3 x3 s3 er3 hsl3
        refine ⟨wipe_same hsl hsl3.1 hsl3.2, ht σ3 H3 _ ⟨ρ3, env1, h1, er3, s3, ?_⟩⟩
        dsimp only at hloop
        -- the new state behind a turn
        have next : ∀ {ρ5 : RhoT} {H5 : Hp}, Ext (ρ'.hide D) ρ5 H2 H5 → ∃ ρ6 : RhoT, ρ5 = ρ6.hide D ∧ Ext ρ1 ρ6 H1 H5 ∧ ∀ vs, H' D = some (.lst vs) → H5 D = some (.lst vs) ∧ Keeps (ρ'.hide D) ρ5 H' H5 := by
          intro ρ5 H5 x5
          have xa := y1.trans x5
          refine ⟨⟨ρ5.r, ρ'.hid⟩, ?_, st.ext.trans xa.unhide, fun vs e => ⟨xa.keep D _ e (fun n z => st.sim.apart n D z List.mem_cons_self), xa.keeps⟩⟩
          have := xa.hid
          cases ρ5
          simp only at this
          rw [this]
        cases hcd : cond env1 h1 with
        | bad => rw [hcd] at hloop; cases hloop
        | exc _ _ => rw [hcd] at hloop; cases hloop
        | ok b h2 =>
          rw [hcd] at hloop
          intro ρ4 H4 b' x4 s4 eb
          subst eb
          cases b' with
          | false =>
            rw [if_neg Bool.false_ne_true]
            obtain ⟨ρ6, rfl, xe, nx⟩ := next (x3.trans x4)
            obtain ⟨vs, hv, rv⟩ := st.lst
            obtain ⟨e5, kp5⟩ := nx vs hv
            exact ⟨ρ6, h2, acc, ⟨xe, s4, vs, e5, RelL.keeps kp5 _ _ rv⟩, by omega, hloop⟩
          | true =>
            rw [if_pos rfl]
            dsimp only at hloop
            refine ⟨ρ4, env1, h2, er3.ext x4, s4, ?_⟩
            cases hel : me env1 h2 with
            | bad => rw [hel] at hloop; cases hloop
            | exc _ _ => rw [hel] at hloop; cases hloop
            | ok y h3 =>
              rw [hel] at hloop
              intro ρ5 H5 v x5 s5 r5
              obtain ⟨ρ6, rfl, xe, nx⟩ := next ((x3.trans x4).trans x5)
              obtain ⟨vs, hv, rv⟩ := st.lst
              obtain ⟨e5, kp5⟩ := nx vs hv
              have lv := rv.length
              refine ⟨vs, e5, by have := ir.len; omega, ρ6, h3, acc ++ [y], ⟨xe.grow hD, s5.grow, vs ++ [v], upd_same, RelL.keeps Keeps.grow _ _ ((RelL.keeps kp5 _ _ rv).append (RelL.cons r5 RelL.nil))⟩, by simp; omega, hloop⟩
    · have hie : i = items.length := by omega
      subst hie
      rw [List.drop_length] at hloop
      unfold compLoop at hloop
      cases hloop
      obtain ⟨vs, hv, rv⟩ := st.lst
      refine .inl ⟨ir.stop _ H' kp, ?_⟩
      have hur : Unr ρ' D := fun n z => st.sim.apart n D z List.mem_cons_self
      have hnh : D ∉ ρ'.hid := by rw [st.ext.hid]; exact hDh
      have hz : accF.length ≤ sizeLine := Nat.le_trans hacc ir.len
      cases m with
      | true =>
        refine q (ρ'.push D) H' _ ?_ (st.sim.show_ hnh hur hv rv hz) (rel_new st.sim.unhide)
        exact ⟨by have := st.ext.le; simp; omega, fun n hn => by
          have hn' : n < ρ'.r.length := Nat.lt_of_lt_of_le hn st.ext.le
          rcases st.ext.old n hn with z | z
          · exact .inl (by rw [← z]; exact List.getElem?_append_left hn')
          · exact .inr (by rw [← z]; exact List.getElem?_append_left hn'), fun n a hn e => by
          rcases get_snoc e with z | ⟨_, z⟩
          · exact st.ext.new n a hn z
          · cases z; exact hD, st.ext.keep, st.ext.dom, st.ext.hid⟩
      | false =>
        refine q ρ' H' _ st.ext st.sim.unhide ?_
        simp only [Rel]
        exact ⟨D, vs, rfl, ⟨hv, hur, hnh⟩, RelL.keeps Keeps.unhide _ _ rv, hz⟩
theorem ev_comp {scope : Scope} {own : List (Str × Nat)} {m : Bool} {sl : List Nat} {g : MG} {mi : MI} {tt : TT} {cond : M Bool} {me : M D} (hc : X.calm = true) (hN : X.N.Nodup) (hsl : ∀ j ∈ sl, j ∈ own.map (·.2))
    (hi : PI X tg iter (tI C W mi)) (ok : BlkOk X.N X.env.scope scope own)
    (hg : ∀ (s : Shared) (H : Hp) (Cc : Addr) (cl : List (Str × Addr)) (fp : List Addr), PG (X.blk s H scope (compEnvC scope cl Cc X.env) fp) tg (tG C sl g))
    (hts : ∀ (s : Shared) (H : Hp) (Cc : Addr) (cl : List (Str × Addr)) (fp : List Addr), PTs (X.blk s H scope (compEnvC scope cl Cc X.env) fp) ifs tt) (ht : ∀ σ H Q, tT C W0 cond σ H Q → tt σ H Q)
    (he : ∀ (s : Shared) (H : Hp) (Cc : Addr) (cl : List (Str × Addr)) (fp : List Addr), PE (X.blk s H scope (compEnvC scope cl Cc X.env) fp) elt (tE C W0 me)) (hs : ∀ x, foldedSetIterable iter X.env x = pure x) :
    PE X (.ListComp elt [⟨tg, iter, ifs, 0⟩] scope pos) (tE C W (mcomp m (own.map (·.2)) mi g cond me)) :=
  weakE (pe_lc hc hN hi ok hg hts he hs) fun σ H Q h => comp_ok hc hN hsl ht h
end
end EV


/-! EvL: statements. -/
namespace EV
open PySem PySem.Spec PyProof.Rows L2

inductive Fl where
  | nx | bk | ct
  | ret (d : D)
  | exc (x : Exn)
abbrev SR := Option (Fl × Env × Hd)
abbrev MS := Env → Hd → SR
def EndOk (C : Ctx) (W : WX) (Z : Ends) (ρ' : RhoT) (H' : Hp) (σ' : L2.St) : Fl → Prop
  | .nx => Z.nx σ' H'
  | .bk => Z.bk σ' H'
  | .ct => Z.ct σ' H'
  | .ret d => ∀ v, Rel C ρ' H' d v → Z.rt v H'
  | .exc x => ∀ dd, XRel C ρ' H' x dd → W (.ref (C.ca x.cls)) dd σ' H'
def PostS (C : Ctx) (ρ : RhoT) (H : Hp) (W : WX) (Z : Ends) (n : Nat) : SR → Prop
  | none => False
  | some (fl, env', hd') => ∀ ρ' H' σ', Ext ρ ρ' H H' → SimH C ρ' H' hd' → EnvRel C ρ' H' env' σ' → σ'.length = n → EndOk C W Z ρ' H' σ' fl
def tS (C : Ctx) (W : WX) (m : MS) : TS := fun Z σ H => ∃ ρ env hd, EnvRel C ρ H env σ ∧ SimH C ρ H hd ∧ PostS C ρ H W Z σ.length (m env hd)

def ofE (m : M D) (k : D → MS) : MS := fun env h => match m env h with
  | .ok d h1 => k d env h1
  | .exc x h1 => some (.exc x, env, h1)
  | .bad => none
def ofT (m : M Bool) (k : Bool → MS) : MS := fun env h => match m env h with
  | .ok d h1 => k d env h1
  | .exc x h1 => some (.exc x, env, h1)
  | .bad => none
def sPass : MS := fun env h => some (.nx, env, h)
def sBrk : MS := fun env h => some (.bk, env, h)
def sCnt : MS := fun env h => some (.ct, env, h)
def sExpr (m : M D) : MS := ofE m fun _ env h => some (.nx, env, h)
def sRet (m : M D) : MS := ofE m fun d env h => some (.ret d, env, h)
def sRetN : MS := fun env h => some (.ret .non, env, h)
def sAsg (m : M D) (g : MG) : MS := ofE m fun d env h => match g d env h with
  | some (env', h') => some (.nx, env', h')
  | none => none
def sIf (c : M Bool) (a b : MS) : MS := ofT c fun k env h => if k then a env h else b env h
def sSeq (a b : MS) : MS := fun env h => match a env h with
  | some (.nx, env', h') => b env' h'
  | r => r
def forLoop (g : MG) (body : MS) : List D → MS
  | [], env, h => some (.nx, env, h)
  | x :: xs, env, h => match g x env h with
    | none => none
    | some (env1, h1) => match body env1 h1 with
      | some (.nx, e2, h2) => forLoop g body xs e2 h2
      | some (.ct, e2, h2) => forLoop g body xs e2 h2
      | some (.bk, e2, h2) => some (.nx, e2, h2)
      | r => r
def sFor (it : MI) (g : MG) (body : MS) : MS := fun env h => match it env h with
  | .ok items h1 => forLoop g body items env h1
  | .exc x h1 => some (.exc x, env, h1)
  | .bad => none
def sWhile (c : M Bool) (body : MS) : Nat → MS
  | 0 => fun _ _ => none
  | n + 1 => ofT c fun k env h => if k then
      (match body env h with
      | some (.nx, e2, h2) => sWhile c body n e2 h2
      | some (.ct, e2, h2) => sWhile c body n e2 h2
      | some (.bk, e2, h2) => some (.nx, e2, h2)
      | r => r)
    else some (.nx, env, h)

section
variable {X : Cx} {C : Ctx} {W : WX} {pos cpos apos p2 : Pos} {a b c e o tg t i elt iter : Expr} {es rest ifs : List Expr} {ma mb mo : M D} {mi : MI} {ms : M (List D)} {ta tb : M Bool} {st : Stmt} {sts body : List Stmt} {sa sb : MS}
variable {ρ ρ' ρ'' : RhoT} {H H' H'' : Hp} {hd : Hd} {env : Env} {σ : L2.St} {Z : Ends}

theorem PostS.ext {n : Nat} {r : SR} (x : Ext ρ ρ' H H') (p : PostS C ρ H W Z n r) : PostS C ρ' H' W Z n r := by
  cases r with
  | none => exact p
  | some q => obtain ⟨fl, env', hd'⟩ := q; exact fun ρ2 H2 σ2 y => p ρ2 H2 σ2 (x.trans y)
theorem PostS.here {fl : Fl} (p : PostS C ρ H W Z σ.length (some (fl, env, hd))) (sh : SimH C ρ H hd) (er : EnvRel C ρ H env σ) : EndOk C W Z ρ H σ fl := p ρ H σ Ext.refl sh er rfl
theorem goE {k : D → MS} (er : EnvRel C ρ H env σ) (sh : SimH C ρ H hd) (p : PostS C ρ H W Z σ.length (ofE ma k env hd)) {Q' : VK}
    (go : ∀ v H1 ρ1 hd1 d, Ext ρ ρ1 H H1 → EnvRel C ρ1 H1 env σ → SimH C ρ1 H1 hd1 → Rel C ρ1 H1 d v → PostS C ρ1 H1 W Z σ.length (k d env hd1) → Q' v H1) : tE C W ma σ H Q' := by
  refine ⟨ρ, env, hd, er, sh, ?_⟩
  unfold ofE at p
  cases hm : ma env hd with
  | bad => rw [hm] at p; exact p.elim
  | ok d h => rw [hm] at p; exact fun ρ1 H1 v x s r => go v H1 ρ1 h d x (er.ext x) s r (p.ext x)
  | exc x h => rw [hm] at p; exact fun ρ1 H1 dd y s r => p ρ1 H1 σ y s (er.ext y) rfl dd r
theorem goT {k : Bool → MS} (er : EnvRel C ρ H env σ) (sh : SimH C ρ H hd) (p : PostS C ρ H W Z σ.length (ofT ta k env hd)) {Q' : Bool → Hp → Prop}
    (go : ∀ b H1 ρ1 hd1, Ext ρ ρ1 H H1 → EnvRel C ρ1 H1 env σ → SimH C ρ1 H1 hd1 → PostS C ρ1 H1 W Z σ.length (k b env hd1) → Q' b H1) : tT C W ta σ H Q' := by
  refine ⟨ρ, env, hd, er, sh, ?_⟩
  unfold ofT at p
  cases hm : ta env hd with
  | bad => rw [hm] at p; exact p.elim
  | ok d h => rw [hm] at p; exact fun ρ1 H1 v x s r => by subst r; exact go v H1 ρ1 h x (er.ext x) s (p.ext x)
  | exc x h => rw [hm] at p; exact fun ρ1 H1 dd y s r => p ρ1 H1 σ y s (er.ext y) rfl dd r
theorem weakS {t t' : TS} (h : PS X st t) (w : ∀ Z σ H, t' Z σ H → t Z σ H) : PS X st t' := ⟨fun pins s σ H Z I q => h.run pins s σ H Z I (w Z σ H q)⟩
theorem weakSs {t t' : TS} (h : PSs X sts t) (w : ∀ Z σ H, t' Z σ H → t Z σ H) : PSs X sts t' := ⟨fun pins s σ H Z I q => h.run pins s σ H Z I (w Z σ H q)⟩

theorem evs_pass {pos : Pos} : PS X (.Pass pos) (tS C W sPass) := weakS ps_pass fun Z σ H ⟨ρ, env, hd, er, sh, p⟩ => p.here sh er
theorem evs_brk {pos : Pos} : PS X (.Break pos) (tS C W sBrk) := weakS ps_break fun Z σ H ⟨ρ, env, hd, er, sh, p⟩ => p.here sh er
theorem evs_cnt {pos : Pos} : PS X (.Continue pos) (tS C W sCnt) := weakS ps_continue fun Z σ H ⟨ρ, env, hd, er, sh, p⟩ => p.here sh er
def isComp : Expr → Bool
  | .ListComp _ _ _ _ => true
  | .SetComp _ _ _ _ => true
  | .DictComp _ _ _ _ _ => true
  | _ => false
theorem swaps_no {t : Option Expr} {l : Nat} {env : PySem.Env} (h : isComp e = false) : swapsWith e t l env = pure false := by
  cases e <;> first | rfl | cases h
theorem evs_expr (he : PE X e (tE C W ma)) (hs : isComp e = false) : PS X (.Expr e pos) (tS C W (sExpr ma)) :=
  weakS (ps_expr he (swaps_no hs)) fun Z σ H ⟨ρ, env, hd, er, sh, p⟩ => goE er sh p fun v H1 ρ1 hd1 d x er1 sh1 r1 p1 => PostS.here p1 sh1 er1
theorem evs_ret (he : PE X e (tE C W ma)) : PS X (.Return (some e) pos) (tS C W (sRet ma)) :=
  weakS (ps_ret he) fun Z σ H ⟨ρ, env, hd, er, sh, p⟩ => goE er sh p fun v H1 ρ1 hd1 d x er1 sh1 r1 p1 => (p1.here sh1 er1) v r1
theorem evs_retN : PS X (.Return none pos) (tS C W sRetN) :=
  weakS ps_retN fun Z σ H ⟨ρ, env, hd, er, sh, p⟩ => (p.here sh er) .non rel_non
theorem go_asg {sl : List Nat} {g : MG} (er : EnvRel C ρ H env σ) (sh : SimH C ρ H hd) (p : PostS C ρ H W Z σ.length (sAsg ma g env hd)) : tAsg (tE C W ma) (tG C sl g) Z σ H :=
  goE er sh p fun v H1 ρ1 hd1 d x er1 sh1 r1 p1 => by
    refine ⟨ρ1, env, hd1, d, er1, sh1, r1, ?_⟩
    split at p1
    · rename_i env' h' e
      rw [e]
      exact fun ρ2 H2 σ2 y s2 e2 l2 => p1 ρ2 H2 σ2 y s2 e2 l2.1
    · exact p1.elim
def swapOk (tg e : Expr) : Bool := !isComp e || (match tg with
  | .Name _ _ => false
  | _ => true)
theorem swaps_tg {tg e : Expr} {l : Nat} {env : PySem.Env} (h : swapOk tg e = true) : swapsWith e (some tg) l env = pure false := by
  cases e <;> cases tg <;> first | rfl | cases h
def plainAsg (tg e : Expr) : Bool := swapOk tg e && notStar tg && (match tg, e with
  | .Tuple _ _ _, .Tuple _ _ _ => false
  | .List _ _, .Tuple _ _ _ => false
  | _, _ => true)
theorem evs_asg {sl : List Nat} {g : MG} (he : PE X e (tE C W ma)) (hg : PG X tg (tG C sl g)) (hp : plainAsg tg e = true) : PS X (.Assign [tg] e pos) (tS C W (sAsg ma g)) := by
  unfold plainAsg at hp
  simp only [Bool.and_eq_true] at hp
  obtain ⟨⟨h1, h2⟩, h3⟩ := hp
  refine weakS (ps_asg he hg (swaps_tg h1) ?_ (assign_at h2)) fun Z σ H ⟨ρ, env, hd, er, sh, p⟩ => go_asg er sh p
  cases tg <;> cases e <;> first | rfl | cases h3
theorem evs_if (hc : PT X c (tT C W ta)) (ha : PSs X sts (tS C W sa)) (hb : PSs X body (tS C W sb)) : PS X (.If c sts body pos) (tS C W (sIf ta sa sb)) :=
  weakS (ps_if hc ha hb) fun Z σ H ⟨ρ, env, hd, er, sh, p⟩ => goT er sh p fun k H1 ρ1 hd1 x er1 sh1 p1 => by
    cases k with
    | true => exact ⟨ρ1, env, hd1, er1, sh1, p1⟩
    | false => exact ⟨ρ1, env, hd1, er1, sh1, p1⟩
theorem evss_nil : PSs X [] (tS C W sPass) := weakSs pss_nil fun Z σ H ⟨ρ, env, hd, er, sh, p⟩ => p.here sh er
theorem evss_one (h : PS X st (tS C W sa)) : PSs X [st] (tS C W sa) := pss_one h
theorem evss_cons (h : PS X st (tS C W sa)) (hr : PSs X sts (tS C W sb)) : PSs X (st :: sts) (tS C W (sSeq sa sb)) :=
  weakSs (pss_cons h hr) fun Z σ H ⟨ρ, env, hd, er, sh, p⟩ => by
    refine ⟨ρ, env, hd, er, sh, ?_⟩
    unfold sSeq at p
    cases hm : sa env hd with
    | none => rw [hm] at p; exact p
    | some q =>
      obtain ⟨fl, env', hd'⟩ := q
      rw [hm] at p
      cases fl with
      | nx => exact fun ρ2 H2 σ2 x s e l => ⟨ρ2, env', hd', e, s, by rw [l]; exact p.ext x⟩
      | bk => exact p
      | ct => exact p
      | ret d => exact p
      | exc x => exact p
theorem go_for {sl : List Nat} {g : MG} (h : tS C W (sFor mi g sa) Z σ H) : tFor (tI C W mi) (tG C sl g) (tS C W sa) Z σ H := by
    obtain ⟨ρ, env, hd, er, sh, p⟩ := h
    refine ⟨ρ, env, hd, er, sh, ?_⟩
    unfold sFor at p
    cases hm : mi env hd with
    | bad => rw [hm] at p; exact p.elim
    | exc x h => rw [hm] at p; exact fun ρ1 H1 dd y s r => p ρ1 H1 σ y s (er.ext y) rfl dd r
    | ok items h0 =>
      rw [hm] at p
      intro ρ1 H1 J x1 s1 ir
      refine ⟨fun i k σ' H' => k = items.length - i ∧ i ≤ items.length ∧ σ'.length = σ.length ∧ ∃ ρ' env' hd', Ext ρ1 ρ' H1 H' ∧ EnvRel C ρ' H' env' σ' ∧ SimH C ρ' H' hd' ∧ PostS C ρ' H' W Z σ.length (forLoop g sa (items.drop i) env' hd'),
        ⟨_, rfl, Nat.zero_le _, rfl, ρ1, env, h0, Ext.refl, er.ext x1, s1, p.ext x1⟩, ?_⟩
      rintro i k σ' H' ⟨rfl, hi', hl', ρ', env', hd', x', er', sh', p'⟩
      by_cases hlt : i < items.length
      · refine .inr ⟨ir.go ρ' H' i x'.keeps hlt, fun σ2 H2 => σ2.length = σ.length ∧ ∃ ρ2 env2 hd2, Ext ρ1 ρ2 H1 H2 ∧ EnvRel C ρ2 H2 env2 σ2 ∧ SimH C ρ2 H2 hd2 ∧ PostS C ρ2 H2 W Z σ.length (forLoop g sa (items.drop (i + 1)) env2 hd2),
          fun σ2 H2 ⟨l2, ρ2, env2, hd2, y1, y2, y3, y4⟩ => ⟨items.length - (i + 1), by omega, rfl, hlt, l2, ρ2, env2, hd2, y1, y2, y3, y4⟩, fun x H2 hy => ?_⟩
        obtain ⟨y1, y2, y3⟩ := ir.yld ρ' H' i x H2 hd' items[i] x'.keeps sh' (List.getElem?_eq_getElem hlt) hy
        rw [List.drop_eq_getElem_cons hlt] at p'
        unfold forLoop at p'
        refine ⟨ρ', env', hd', items[i], er'.ext y1, y2, y3, ?_⟩
        cases hg1 : g items[i] env' hd' with
        | none => rw [hg1] at p'; exact p'
        | some q1 =>
          obtain ⟨env1, h1⟩ := q1
          rw [hg1] at p'
          intro ρ3 H3 σ3 x3 s3 e3 l3
          refine ⟨ρ3, env1, h1, e3, s3, ?_⟩
          dsimp only at p'
          have p3 := p'.ext (y1.trans x3)
          have l3' : σ3.length = σ.length := l3.1.trans hl'
          cases hb1 : sa env1 h1 with
          | none => rw [hb1] at p3; exact p3.elim
          | some q2 =>
            obtain ⟨fl, e2, h2⟩ := q2
            rw [hb1] at p3
            have xx := x'.trans (y1.trans x3)
            cases fl with
            | nx => exact fun ρ4 H4 σ4 x4 s4 e4 l4 => ⟨l4.trans l3', ρ4, e2, h2, xx.trans x4, e4, s4, p3.ext x4⟩
            | ct => exact fun ρ4 H4 σ4 x4 s4 e4 l4 => ⟨l4.trans l3', ρ4, e2, h2, xx.trans x4, e4, s4, p3.ext x4⟩
            | bk => exact fun ρ4 H4 σ4 x4 s4 e4 l4 => p3 ρ4 H4 σ4 x4 s4 e4 (l4.trans l3')
            | ret d => exact fun ρ4 H4 σ4 x4 s4 e4 l4 => p3 ρ4 H4 σ4 x4 s4 e4 (l4.trans l3')
            | exc x => exact fun ρ4 H4 σ4 x4 s4 e4 l4 => p3 ρ4 H4 σ4 x4 s4 e4 (l4.trans l3')
      · have hie : i = items.length := by omega
        subst hie
        rw [List.drop_length] at p'
        exact .inl ⟨ir.stop ρ' H' x'.keeps, p' ρ' H' σ' Ext.refl sh' er' hl'⟩
theorem evs_for {sl : List Nat} {g : MG} {pos : Pos} (hp : PassesOwn (model X.prog X.w) X.A X.env X.xe) (hc : X.calm = true) (hi : PI X tg iter (tI C W mi)) (hg : PG X tg (tG C sl g)) (hb : PSs X body (tS C W sa)) (hs : ∀ x, foldedSetIterable iter X.env x = pure x) :
    PS X (.For tg iter body [] pos) (tS C W (sFor mi g sa)) :=
  weakS (ps_for hp hc hi hg hb hs) fun Z σ H h => go_for h
theorem evs_while {pos : Pos} {n : Nat} (hp : PassesOwn (model X.prog X.w) X.A X.env X.xe) (hc : PT X c (tT C W ta)) (hb : PSs X body (tS C W sa)) : PS X (.While c body [] pos) (tS C W (sWhile ta sa n)) :=
  weakS (ps_while hp hc hb) fun Z σ H ⟨ρ, env, hd, er, sh, p⟩ => by
    refine ⟨fun m σ' H' => σ'.length = σ.length ∧ ∃ ρ' env' hd', EnvRel C ρ' H' env' σ' ∧ SimH C ρ' H' hd' ∧ PostS C ρ' H' W Z σ.length (sWhile ta sa m env' hd'), ⟨n, rfl, ρ, env, hd, er, sh, p⟩, ?_⟩
    rintro m σ' H' ⟨hl', ρ', env', hd', er', sh', p'⟩
    cases m with
    | zero => exact p'.elim
    | succ m =>
      unfold sWhile at p'
      rw [← hl'] at p'
      refine goT er' sh' p' fun k H1 ρ1 hd1 x er1 sh1 p1 => ?_
      cases k with
      | false =>
        rw [if_neg Bool.false_ne_true]
        exact p1 ρ1 H1 σ' Ext.refl sh1 er1 rfl
      | true =>
        rw [if_pos rfl]
        refine ⟨fun σ2 H2 => σ2.length = σ.length ∧ ∃ ρ2 env2 hd2, EnvRel C ρ2 H2 env2 σ2 ∧ SimH C ρ2 H2 hd2 ∧ PostS C ρ2 H2 W Z σ.length (sWhile ta sa m env2 hd2), fun σ2 H2 h2 => ⟨m, Nat.lt_succ_self m, h2⟩, ρ1, env', hd1, er1, sh1, ?_⟩
        rw [if_pos rfl] at p1
        cases hb1 : sa env' hd1 with
        | none => rw [hb1] at p1; exact p1.elim
        | some q2 =>
          obtain ⟨fl, e2, h2⟩ := q2
          rw [hb1] at p1
          cases fl with
          | nx => exact fun ρ4 H4 σ4 x4 s4 e4 l4 => ⟨l4.trans hl', ρ4, e2, h2, e4, s4, by rw [← hl']; exact p1.ext x4⟩
          | ct => exact fun ρ4 H4 σ4 x4 s4 e4 l4 => ⟨l4.trans hl', ρ4, e2, h2, e4, s4, by rw [← hl']; exact p1.ext x4⟩
          | bk => exact p1
          | ret d => exact p1
          | exc x => exact p1
/-- y = [..], y a local name on the comprehension's line -/
theorem evs_setC {scope : Scope} {own : List (Str × Nat)} {m : Bool} {sl : List Nat} {g : MG} {mi : MI} {tt : TT} {cond : M Bool} {me : M D} {i : Nat} {y : Str} {py spos : Pos} (hc : X.calm = true) (hN : X.N.Nodup) (hsl : ∀ j ∈ sl, j ∈ own.map (·.2))
    (hy : X.N[i]? = some y) (hyl : X.env.scope.names.lookup y = some .local) (hsw : swapsWith (.ListComp elt [⟨tg, iter, ifs, 0⟩] scope pos) (some (.Name y py)) spos.line X.env = pure true)
    (hi : PI X tg iter (tI C W mi)) (ok : BlkOk X.N X.env.scope scope own)
    (hg : ∀ (s : Shared) (H : Hp) (Cc : Addr) (cl : List (Str × Addr)) (fp : List Addr), PG (X.blk s H scope (compEnvC scope cl Cc X.env) fp) tg (tG C sl g))
    (hts : ∀ (s : Shared) (H : Hp) (Cc : Addr) (cl : List (Str × Addr)) (fp : List Addr), PTs (X.blk s H scope (compEnvC scope cl Cc X.env) fp) ifs tt) (ht : ∀ σ H Q, tT C W0 cond σ H Q → tt σ H Q)
    (he : ∀ (s : Shared) (H : Hp) (Cc : Addr) (cl : List (Str × Addr)) (fp : List Addr), PE (X.blk s H scope (compEnvC scope cl Cc X.env) fp) elt (tE C W0 me)) (hs : ∀ x, foldedSetIterable iter X.env x = pure x) :
    PS X (.Assign [.Name y py] (.ListComp elt [⟨tg, iter, ifs, 0⟩] scope pos) spos) (tS C W (sAsg (mcomp m (own.map (·.2)) mi g cond me) (gname i))) :=
  weakS (ps_setLc hc hN hy hyl hsw hi ok hg hts he hs) fun Z σ H ⟨ρ, env, hd, er, sh, p⟩ =>
    comp_ok hc hN hsl ht (goE er sh p fun v H1 ρ1 hd1 d x er1 sh1 r1 p1 => p1 ρ1 H1 _ Ext.refl sh1 (er1.set i r1) (by simp))
end
end EV


/-! EvM: repr; defs and their calls, where it is known that no repr is under way. -/
namespace EV
open PySem PySem.Spec PyProof.Rows L2

/-- room for k calls, no repr under way -/
structure RoomG (k : Nat) (A : Around) : Prop where
  room : Room k A
  quiet : A.guards = some []
theorem RoomG.weak {j k : Nat} {A : Around} (r : RoomG k A) (h : j ≤ k) : RoomG j A := ⟨r.room.mono h, r.quiet⟩
theorem RoomG.inner {k : Nat} {A : Around} (r : RoomG (k + 1) A) (env : PySem.Env) : RoomG k (A.deeper env) := ⟨r.room.deeper env, r.quiet⟩
theorem RoomG.room64 {k : Nat} {A : Around} (r : RoomG k A) : A.units + 64 < cLine := by have := r.room.un; omega

/-! ### repr -/
def fRepr : OpN
  | [x], h => match x with
    | .tup _ | .lst _ | .ref _ | .dic _ _ => match toPyT h x with
      | some p => if p.showable = true ∧ p.shown.length ≤ sizeLine ∧ p.depth ≤ 60 then some (.v (.str p.shown)) else none
      | none => none
    | _ => none
  | _, _ => none
section
variable {X : Cx} {C : Ctx} {ρ : RhoT} {H : Hp} {hd : Hd}
theorem fn_repr (hK : X.K = C.K) (hg : X.A.guards = some []) (hu : X.A.units + 64 < cLine) : CallR X (.builtin "repr") (rON C fRepr) := by
  intro pins s σ H xs us Q I rx ⟨ρ, hd, ds, sh, rl, p⟩
  unfold fRepr at p
  split at p
  · rename_i x
    obtain ⟨v, rfl, r1⟩ := relL1 rl
    cases rx with
    | @cons _ u0 _ _ q1 q2 =>
      cases q2
      have key : ∀ {d : PyData}, toPyT hd x = some d → (∃ a, v = .ref a) → PostO C ρ H hd Q (if d.showable = true ∧ d.shown.length ≤ sizeLine ∧ d.depth ≤ 60 then some (.v (.str d.shown)) else none) → wpAny (model X.prog X.w) X.A (call (.builtin "repr") [u0]) (EP X pins σ Q) X.xe s := fun {d} e hv pp => by
        split at pp
        · rename_i hz
          obtain ⟨a, rfl⟩ := hv
          have rd := readsT_of hK I sh e r1 q1
          cases q1
          refine repr_rds (h₀ := s.heap) rd hz.1 hg (by omega) (fun _ _ z => z) (fun h' u tk hk => ?_) hz.2.1
          exact ⟨.str d.shown, H, I.kept hk, ⟨u, rfl⟩, pp.v sh (rel_str hz.2.1)⟩
        · exact pp.elim
      split at p
      all_goals first | exact p.elim | skip
      all_goals
        split at p
        · rename_i d e
          refine key e ?_ p
          first
            | (simp only [Rel] at r1; obtain ⟨a, _, rfl, _⟩ := r1; exact ⟨a, rfl⟩)
            | (simp only [Rel] at r1; obtain ⟨a, rfl, _⟩ := r1; exact ⟨a, rfl⟩)
        · exact p.elim
  · exact p.elim
end

/-! ### a def's promise -/
structure FnG (P : Program) (w : World) (K : PySem.W.Frag) (mg : Str → Option Value) (base : Heap) (CX : CXT) (k : Nat) (f : Addr) (fd : FuncData) (ps : List Str) (sp : Sp) : Prop where
  many : ∀ vs H Q E, sp vs H Q E → vs.length = ps.length
  runs : ∀ (A : Around) (outer : List PySem.Env) (s : Shared) (H : Hp) (args : Args) (us : List Value) (vs : List V) (Q : VK) (E : XK), RoomG k A → Env0 P w K mg base A outer s H → BindsTo s fd args (ps.zip us) → Vals vs us → sp vs H Q E →
    codeAny (model P w) A (.call (.ref f) args) (CR CX outer P w H s Q E) s
theorem FnG.weak {P : Program} {w : World} {K : PySem.W.Frag} {mg : Str → Option Value} {base : Heap} {CX : CXT} {j k : Nat} {f : Addr} {fd : FuncData} {ps : List Str} {sp : Sp} (F : FnG P w K mg base CX j f fd ps sp) (h : j ≤ k) :
    FnG P w K mg base CX k f fd ps sp := ⟨F.many, fun A outer s H args us vs Q E hr => F.runs A outer s H args us vs Q E (hr.weak h)⟩

section
variable {X : Cx} {C : Ctx} {W : WX} {CX : CXT} {k n : Nat} {f : Addr} {fd : FuncData} {ps ks : List Str} {sp : Sp} {x : Str} {p pos : Pos} {e : Expr} {es : List Expr} {kws : List Keyword} {t tk : TA}
/-- how a call's end looks from the caller -/
theorem ends_of {pins : List (Addr × Obj)} {σ : L2.St} {H : Hp} {s : Shared} {Q : VK} {E : XK} (hx : PassesAt CX X σ E) (I : Inv X pins σ H s) {args : Args} (h : codeAny (model X.prog X.w) X.A (.call (.ref f) args) (CR CX X.stack X.prog X.w H s Q E) s) :
    codeAny (model X.prog X.w) X.A (.call (.ref f) args) (fun r s' => match r with | .ok (.ret v) => EP X pins σ Q v s' | .ok _ => False | .error e => X.xe e s') s := by
  refine codeAny_mono h fun r s' hq => ?_
  rcases r with e | (u | _ | _ | _)
  · exact hx pins H s e s' I hq
  all_goals first | exact I.after hq | exact False.elim hq
/-- the values of a call, the defaults behind them -/
def tCl (sp : Sp) (dvs : List V) (E : L2.St → XK) (t : TA) : TE := fun σ H Q => t σ H fun vs H1 => sp (vs ++ dvs) H1 Q (E σ)
theorem run_fnG {pins : List (Addr × Obj)} {σ : L2.St} {H : Hp} {s : Shared} {Q : VK} {E : XK} {us ds : List Value} {vs dvs : List V} (F : FnG X.prog X.w X.K X.mg X.base CX k f fd ps sp) (hr : RoomG k X.A) (hb : Binds X.K fd ps ds) (hd : Vals dvs ds) (hx : PassesAt CX X σ E)
    (I : Inv X pins σ H s) (r : Vals vs us) (h : sp (vs ++ dvs) H Q E) : wpAny (model X.prog X.w) X.A (call (.ref f) us) (EP X pins σ Q) X.xe s := by
  have rr := r.append hd
  have hl : (us ++ ds).length = ps.length := rr.length.symm.trans (F.many _ _ _ _ h)
  refine wpAny_call (codeAny_mono (ends_of (pins := pins) hx I (F.runs _ _ s H _ _ _ Q E hr I.env0 (hb s us I.kIn hl) rr h)) fun r s' q => ?_)
  rcases r with e | (u | _ | _ | _) <;> first | exact q | exact q.elim
theorem pe_callG {E : L2.St → XK} {dvs : List V} {ds : List Value} (F : FnG X.prog X.w X.K X.mg X.base CX k f fd ps sp) (hr : RoomG k X.A) (hg : Gl X x) (hm : X.mg x = some (.ref f)) (hk : PySem.W.keepIn X.K (.ref f) = true) (hb : Binds X.K fd ps ds) (hd : Vals dvs ds) (hx : ∀ σ, PassesAt CX X σ (E σ))
    (ha : PA X (e :: es) t) (hdb : (x == ("__debug__" : Str)) = false) (hs : noStars (e :: es) = true) : PE X (.Call (.Name x p) (e :: es) [] pos) (tCl sp dvs E t) := by
  have hs' : notStar e = true ∧ noStars es = true := by unfold noStars at hs; rwa [Bool.and_eq_true] at hs
  exact ⟨fun pins s σ H Q I h => wpAny_Call_Name_kw (ld_glob I hg hm (PySem.W.callWith_K (h₀ := X.base) I.ok.mod.kin hk (thn (ha.run pos pins s σ H _ I h) fun us s1 ⟨vs, H1, I1, r, q⟩ => ⟨I1.kIn, run_fnG F hr hb hd (hx σ) I1 r q⟩) (starEach_at hs'.1) (plain_of hs'.2)) hdb)⟩
theorem pe_callG0 {E : L2.St → XK} {dvs : List V} {ds : List Value} (F : FnG X.prog X.w X.K X.mg X.base CX k f fd ps sp) (hr : RoomG k X.A) (hg : Gl X x) (hm : X.mg x = some (.ref f)) (hk : PySem.W.keepIn X.K (.ref f) = true) (hb : Binds X.K fd ps ds) (hd : Vals dvs ds) (hx : ∀ σ, PassesAt CX X σ (E σ))
    (hdb : (x == ("__debug__" : Str)) = false) : PE X (.Call (.Name x p) [] [] pos) (tCl sp dvs E tNil) :=
  ⟨fun pins s σ H Q I h => wpAny_Call_Name_kw (ld_glob I hg hm (PySem.W.callWith_K0 I.kIn hk (run_fnG (us := []) F hr hb hd (hx σ) I .nil h)) hdb)⟩
def tClN (n m : Nat) (sp : Sp) (gV : List V → List V → List V) (E : L2.St → XK) (t tk : TA) : TE := fun σ H Q => t σ H fun vs H1 => tk σ H1 fun zs H2 => vs.length = n ∧ zs.length = m ∧ sp (gV vs zs) H2 Q (E σ)
theorem pe_callGN {E : L2.St → XK} {g : List Value → List Value → List Value} {gV : List V → List V → List V} (F : FnG X.prog X.w X.K X.mg X.base CX k f fd ps sp) (hr : RoomG k X.A) (hg : Gl X x) (hm : X.mg x = some (.ref f)) (hk : PySem.W.keepIn X.K (.ref f) = true) (hb : KBn X.K fd ps n ks g gV) (hx : ∀ σ, PassesAt CX X σ (E σ))
    (ha : PA X (e :: es) t) (hkw : PK X kws tk) (hall : (backToKw pos (keywordEach kws X.env)).all (·.1.isSome) = true) (hks : (backToKw pos (keywordEach kws X.env)).filterMap (·.1) = ks)
    (hdb : (x == ("__debug__" : Str)) = false) (he : starEach (e :: es) X.env = (false, eval e X.env) :: starEach es X.env)
    (hpl : ((backTo pos (starEach (e :: es) X.env)).any (·.1) || (backToKw pos (keywordEach kws X.env)).any (·.1.isNone)) = false) :
    PE X (.Call (.Name x p) (e :: es) kws pos) (tClN n ks.length sp gV E t tk) := by
  refine ⟨fun pins s σ H Q I h => wpAny_Call_Name_kw (ld_glob I hg hm (PySem.W.callWith_KW (h₀ := X.base) I.ok.mod.kin hk hall (thn (ha.run pos pins s σ H _ I h) fun us s1 ⟨vs, H1, I1, r, q⟩ =>
    thn (hkw.run pos pins s1 σ H1 _ I1 q) fun ws s2 ⟨zs, H2, I2, rz, l1, l2, q2⟩ => ⟨I2.kIn, ?_⟩) hpl he) hdb)⟩
  rw [hks]
  refine wpAny_call (codeAny_mono (ends_of (pins := pins) (hx σ) I2 (F.runs _ _ s2 H2 _ _ _ Q (E σ) hr I2.env0 (hb.to s2 us ws I2.kIn (r.length.symm.trans l1) (rz.length.symm.trans l2)) (hb.rel r rz) q2)) fun r s' q => ?_)
  rcases r with e | (u | _ | _ | _) <;> first | exact q | exact q.elim
end

/-! ### a def by its body -/
section
variable {CX : CXT} {P : Program} {w : World} {K : PySem.W.Frag} {mg : Str → Option Value} {base : Heap} {k : Nat} {f : Addr} {x qual : Str} {params : Arguments} {body : List Stmt} {scope : Scope} {dvs : List V} {kws : List (Str × V)} {fd : FuncData} {N ps : List Str} {sp : Sp}
theorem fnG_of (F : FunD K x qual params body scope dvs kws f fd) (S : FnScope N ps scope) (many : ∀ vs H Q E, sp vs H Q E → vs.length = ps.length)
    (hbody : ∀ (cdv : Value) (A : Around) (outer : List PySem.Env) (s : Shared) (H : Hp) (vs : List V) (Q : VK) (E : XK), RoomG k (A.deeper (envOfC qual scope s.heap.objs.size f cdv)) → sp vs H Q E →
      ∃ t, PSs (cxOf CX P w K mg base N qual scope f cdv A outer s H E) body t ∧ t { nx := fun _ H' => Q .non H', rt := Q } (start N vs) H) : FnG P w K mg base CX (k + 1) f fd ps sp := by
  obtain ⟨oc, od, dV, kV, doc, pm, an, cdv, ct, osl, rfl, at_, code, -, -⟩ := F.ex
  constructor
  · exact many
  intro A outer s H args us vs Q E room e0 bound rv want
  have inK : K.In s.heap := e0.mod.kin.keeps fun b o e => (e0.bs b o e).1
  have noLim : s.heap.NoLimit := e0.mod.nolimit.keeps fun b o e => (e0.bs b o e).1
  have cell : ∀ {y : Str}, scope.names.lookup y = some .cell → ((cellsFrom (s.heap.objs.size + 1) scope.names []).lookup y).isSome = true := fun q => PySem.W.cellsFrom_some _ _ _ (.inl q)
  refine codeAny_call_function room.room.depth (inK _ _ at_) rfl S.co S.gen rfl (PySem.W.codeRec_of inK code) (bound _ _ _ _ ?_)
  refine wpAny_newFunctionEnv_cells S.kind (fun y hy => (S.par y.1 (List.of_mem_zip (show (y.1, y.2) ∈ _ from hy)).1).imp id fun q => ⟨q, cell q⟩) fun env he s1 made => ?_
  subst he
  refine ⟨noLim.keeps made.toInCall.keep, codeAny_func ?_⟩
  obtain ⟨t, does, goal⟩ := hbody cdv A outer s H vs Q E (room.inner _) want
  refine wpAny_mono (does.run [] s1 (start N vs) H _ (inv_start S room.room.hd e0 (many _ _ _ _ want) rv made) goal) (fun fl s' hs => ?_) fun e s' hs => hs
  have last : ∀ {σ' : L2.St} {H' : Hp} {v : V} {u : Value}, Inv (cxOf CX P w K mg base N qual scope f cdv A outer s H E) [] σ' H' s' → RelV v u → Q v H' → CE outer P w H s Q u s' :=
    fun {_ H' v _} J r q => ⟨v, H', J.os, J.bare, J.base, J.hok, r, q⟩
  rcases fl with u | _ | _ | _
  all_goals first
    | (obtain ⟨v, σ', H', J, r, q⟩ := hs; exact last J r q)
    | (obtain ⟨σ', H', J, q⟩ := hs; exact last (v := V.non) (u := Value.none) J rfl q)
    | (obtain ⟨_, _, _, q⟩ := hs; exact q.elim)
end
end EV


/-! EvN: the program's defs in the evaluator; the law's own call. -/
namespace EV
open PySem PySem.Spec PyProof.Rows L2

abbrev FunT := List D → Hd → Res D
def spM (C : Ctx) (n : Nat) (F : FunT) : Sp := fun vs H Q E => vs.length = n ∧ ∃ ρ hd ds, SimH C ρ H hd ∧ RelL C ρ H ds vs ∧ PostX C (Rel C) ρ H E Q (F ds hd)
def startE (n : Nat) (ds : List D) : Env := ds.map some ++ List.replicate (n - ds.length) none
/-- a def: its body, run at its parameters' values -/
def runB (n : Nat) (m : MS) : FunT := fun ds hd => match m (startE n ds) hd with
  | some (.nx, _, h) => .ok .non h
  | some (.ret d, _, h) => .ok d h
  | some (.exc x, _, h) => .exc x h
  | _ => .bad
/-- f(e, ..): n parameters, the last ones by their defaults -/
def mcall (F : FunT) (n : Nat) (dd : List D) (as : M (List D)) : M D := fun env h => (as env h).bind fun xs h1 => if (xs ++ dd).length = n then F (xs ++ dd) h1 else .bad
def mcallN (F : FunT) (n i j : Nat) (g : List D → List D → List D) (as ks : M (List D)) : M D := fun env h => (as env h).bind fun xs h1 => (ks env h1).bind fun zs h2 => if xs.length = i ∧ zs.length = j ∧ (g xs zs).length = n then F (g xs zs) h2 else .bad

section
variable {X : Cx} {C : Ctx} {W : WX} {CX : CXT} {k n i : Nat} {f : Addr} {fd : FuncData} {ps ks : List Str} {F : FunT} {x : Str} {p pos kpos : Pos} {e : Expr} {es : List Expr} {kws : List Keyword} {ms mk : M (List D)} {ma : M D} {dd : List D} {nm : Option Str}
theorem weakK {t t' : TA} (h : PK X kws t) (w : ∀ σ H Q, t' σ H Q → t σ H Q) : PK X kws t' := ⟨fun pos pins s σ H Q I q => h.run pos pins s σ H Q I (w σ H Q q)⟩
theorem evk_nil : PK X [] (tL C W mnil) := weakK pk_nil fun σ H Q ⟨ρ, env, hd, er, sh, p⟩ => p.here sh RelL.nil
theorem evk_cons (ha : PE X e (tE C W ma)) (hr : PK X kws (tL C W mk)) : PK X (⟨nm, e, kpos⟩ :: kws) (tL C W (mcons ma mk)) :=
  weakK (pk_cons ha hr) fun σ H Q ⟨ρ, env, hd, er, sh, p⟩ =>
    seqE er sh p fun v H1 ρ1 hd1 d x er1 sh1 r1 p1 => seqL er1 sh1 p1 fun vs H2 ρ2 hd2 ds x2 er2 sh2 r2 p2 => p2.here sh2 (RelL.cons (Rel.ext x2 _ _ r1) r2)
theorem ev_call {dvs : List V} {ds : List Value} (G : FnG X.prog X.w X.K X.mg X.base CX k f fd ps (spM C n F)) (hr : RoomG k X.A) (hg : Gl X x) (hm : X.mg x = some (.ref f)) (hk : PySem.W.keepIn X.K (.ref f) = true) (hb : Binds X.K fd ps ds) (hd : Vals dvs ds)
    (hdd : ∀ ρ H, RelL C ρ H dd dvs) (hx : ∀ σ, PassesAt CX X σ fun c d H => W c d σ H) (ha : PA X (e :: es) (tL C W ms)) (hdb : (x == ("__debug__" : Str)) = false) (hs : noStars (e :: es) = true) : PE X (.Call (.Name x p) (e :: es) [] pos) (tE C W (mcall F n dd ms)) :=
  weakE (pe_callG G hr hg hm hk hb hd hx ha hdb hs) fun σ H Q ⟨ρ, env, hd, er, sh, p⟩ => seqL er sh p fun vs H1 ρ1 hd1 ds x er1 sh1 r1 p1 => by
    split at p1
    · rename_i hl
      have rr := r1.append (hdd ρ1 H1)
      exact ⟨rr.length.symm.trans hl, ρ1, hd1, _, sh1, rr, p1⟩
    · exact p1.elim
theorem ev_call0 {dvs : List V} {ds : List Value} (G : FnG X.prog X.w X.K X.mg X.base CX k f fd ps (spM C n F)) (hr : RoomG k X.A) (hg : Gl X x) (hm : X.mg x = some (.ref f)) (hk : PySem.W.keepIn X.K (.ref f) = true) (hb : Binds X.K fd ps ds) (hd : Vals dvs ds)
    (hdd : ∀ ρ H, RelL C ρ H dd dvs) (hx : ∀ σ, PassesAt CX X σ fun c d H => W c d σ H) (hdb : (x == ("__debug__" : Str)) = false) : PE X (.Call (.Name x p) [] [] pos) (tE C W (mcall F n dd mnil)) :=
  weakE (pe_callG0 G hr hg hm hk hb hd hx hdb) fun σ H Q ⟨ρ, env, hd, er, sh, p1⟩ => by
    unfold mcall mnil at p1
    rw [Res.bind_ok] at p1
    split at p1
    · rename_i hl
      have rr := (RelL.nil (C := C) (ρ := ρ) (H := H)).append (hdd ρ H)
      exact ⟨rr.length.symm.trans hl, ρ, hd, _, sh, rr, p1⟩
    · exact p1.elim
theorem ev_callN {g : List Value → List Value → List Value} {gV : List V → List V → List V} {gD : List D → List D → List D} (G : FnG X.prog X.w X.K X.mg X.base CX k f fd ps (spM C n F)) (hr : RoomG k X.A) (hg : Gl X x) (hm : X.mg x = some (.ref f)) (hk : PySem.W.keepIn X.K (.ref f) = true)
    (hb : KBn X.K fd ps i ks g gV) (hdd : ∀ ρ H ds vs es zs, RelL C ρ H ds vs → RelL C ρ H es zs → RelL C ρ H (gD ds es) (gV vs zs)) (hx : ∀ σ, PassesAt CX X σ fun c d H => W c d σ H) (ha : PA X (e :: es) (tL C W ms)) (hkw : PK X kws (tL C W mk))
    (hall : (backToKw pos (keywordEach kws X.env)).all (·.1.isSome) = true) (hks : (backToKw pos (keywordEach kws X.env)).filterMap (·.1) = ks) (hno : (backToKw pos (keywordEach kws X.env)).any (·.1.isNone) = false)
    (hdb : (x == ("__debug__" : Str)) = false) (hs : noStars (e :: es) = true) : PE X (.Call (.Name x p) (e :: es) kws pos) (tE C W (mcallN F n i ks.length gD ms mk)) := by
  have hs' : notStar e = true ∧ noStars es = true := by unfold noStars at hs; rwa [Bool.and_eq_true] at hs
  exact weakE (pe_callGN G hr hg hm hk hb hx ha hkw hall hks hdb (starEach_at hs'.1) (by rw [plain_of hs, hno]; rfl)) fun σ H Q ⟨ρ, env, hd, er, sh, p⟩ =>
    seqL er sh p fun vs H1 ρ1 hd1 ds x er1 sh1 r1 p1 => seqL er1 sh1 p1 fun zs H2 ρ2 hd2 es x2 er2 sh2 r2 p2 => by
      split at p2
      · rename_i hl
        have r1' := RelL.ext x2 _ _ r1
        have rr := hdd ρ2 H2 _ _ _ _ r1' r2
        exact ⟨r1.length.symm.trans hl.1, r2.length.symm.trans hl.2.1, rr.length.symm.trans hl.2.2, ρ2, hd2, _, sh2, rr, p2⟩
      · exact p2.elim
end

theorem start_env {C : Ctx} {ρ : RhoT} {H : Hp} {N : List Str} {ds : List D} {vs : List V} (r : RelL C ρ H ds vs) : EnvRel C ρ H (startE N.length ds) (L2.start N vs) := by
  have hl := r.length
  refine ⟨?_, fun i d e => ?_⟩
  · unfold startE L2.start
    rw [List.length_append, List.length_append, List.length_map, List.length_map, List.length_replicate, List.length_replicate, hl]
  · unfold startE at e
    unfold L2.start
    by_cases hi : i < ds.length
    · rw [List.getElem?_append_left (by simpa using hi), List.getElem?_map] at e
      rw [List.getElem?_append_left (by simpa [← hl] using hi), List.getElem?_map]
      cases q : ds[i]? with
      | none => rw [q] at e; cases e
      | some d' =>
        rw [q] at e; cases e
        obtain ⟨v, e1, r1⟩ := r.get q
        exact ⟨v, by rw [e1]; rfl, r1⟩
    · rw [List.getElem?_append_right (by simpa using hi), List.getElem?_replicate] at e
      split at e <;> cases e
section
variable {C : Ctx} {CX : CXT} {P : Program} {w : World} {mg : Str → Option Value} {base : Heap} {k : Nat} {f : Addr} {x qual : Str} {params : Arguments} {body : List Stmt} {scope : Scope} {dvs : List V} {kws : List (Str × V)} {fd : FuncData} {N ps : List Str} {m : MS}
theorem fn_sound (F : FunD C.K x qual params body scope dvs kws f fd) (S : FnScope N ps scope)
    (hb : ∀ (cdv : Value) (A : Around) (outer : List PySem.Env) (s : Shared) (H : Hp) (E : XK), RoomG k (A.deeper (envOfC qual scope s.heap.objs.size f cdv)) →
      PSs (cxOf CX P w C.K mg base N qual scope f cdv A outer s H E) body (tS C (fun c d _ H => E c d H) m)) : FnG P w C.K mg base CX (k + 1) f fd ps (spM C ps.length (runB N.length m)) :=
  fnG_of F S (fun vs H Q E h => h.1) fun cdv A outer s H vs Q E room ⟨hl, ρ, hd, ds, sh, r, p⟩ => ⟨_, hb cdv A outer s H E room, ρ, _, hd, start_env r, sh, by
    unfold runB at p
    cases hm : m (startE N.length ds) hd with
    | none => rw [hm] at p; exact p
    | some q =>
      obtain ⟨fl, env', hd'⟩ := q
      rw [hm] at p
      cases fl with
      | nx => exact fun ρ' H' σ' x s e l => p ρ' H' .non x s rel_non
      | ret d => exact fun ρ' H' σ' x s e l v r => p ρ' H' v x s r
      | exc y => exact fun ρ' H' σ' x s e l dd r => p ρ' H' dd x s r
      | bk => exact p.elim
      | ct => exact p.elim⟩
end

/-! ### the law's call -/
section
variable {P : Program} {w : World} {K : PySem.W.Frag} {mg mb : Str → Option Value} {CX : CXT} {k : Nat} {fa a : Addr} {fd : FuncData} {x : Str} {sp : Sp} {s₁ : Shared} {vs : List Value} {ns : List Int}
/-- the heap that tracks the script alone, where the object is not the module's own -/
def scrH (K : PySem.W.Frag) (a : Addr) (o : Obj) (ns : List Int) : Hp := fun b => if b = a then (match K.lookup a with | some _ => none | none => some (.frz o (.lst (ns.map V.int)))) else none
theorem law_callG (KX : K.In s₁.heap) (hns : s₁.heap.Ns mainGlobals mg) (hb : s₁.heap.Ns builtinsNs mb) (hbb : ∀ x : Str, x ≠ "__name__" → mb x = bootBuiltins x) (hlim : s₁.heap.NoLimit) (hg : s₁.gens = #[])
    (ha : s₁.heap.get? a = some { cls := .type "list", data := .seq vs.toArray }) (hi : IntsAre vs ns) (hl : ns.length ≤ sizeLine) (hr : RoomG k callerA)
    (F : ∀ base : Heap, K.In base → base.Ns mainGlobals mg → FnG P w K mg base CX k fa fd [x] sp) (hbind : ∀ (s : Shared) (u : Value), BindsTo s fd ⟨[u], []⟩ [(x, u)])
    (hsp : ∀ H : Hp, SqL K H a (ns.map V.int) → sp [.ref a] H (fun v _ => v = .bl true) fun _ _ _ => False) (hCX : ∀ H e s', CX [] H s₁ (fun _ _ _ => False) e s' → False) :
    codeAny (model P w) callerA (.call (.ref fa) ⟨[.ref a], []⟩) (fun r s' => r = .ok (.ret (.bool true)) ∧ OldK s₁.heap s'.heap ∧ s'.os = s₁.os ∧ AllBare s'.gens) s₁ := by
  have values := vals_ints hi
  have size := hi.length
  let o : Obj := { cls := .type "list", data := .seq vs.toArray }
  let H := scrH K a o ns
  have cases_ : ∀ b u, H b = some u → b = a ∧ K.lookup a = none ∧ u = .frz o (.lst (ns.map V.int)) := fun b u e => by
    have e' : (if b = a then (match K.lookup a with | some _ => none | none => some (HO.frz o (.lst (ns.map V.int)))) else none) = some u := e
    split at e'
    · split at e'
      · cases e'
      · rename_i q
        cases e'
        exact ⟨by assumption, q, rfl⟩
    · cases e'
  have other : ∀ b ob es ep, s₁.heap.get? b = some ob → ob.data = .dict es ep → H b = none := fun b ob es ep e d => by
    cases q : H b with
    | none => rfl
    | some u =>
      obtain ⟨rfl, -, -⟩ := cases_ b u q
      rw [ha] at e; cases e; cases (show Data.seq vs.toArray _ = Data.dict es ep from d)
  have names : ∀ {b : Addr} {m : Str → Option Value}, s₁.heap.Ns b m → (hidT s₁.heap H).Ns b m := fun {b m} ⟨ob, es, ep, e, d, r⟩ => ⟨ob, es, ep, hidT_get e (other b ob es ep e d), d, r⟩
  have inK : K.In (hidT s₁.heap H) := fun b ob e => hidT_get (KX b ob e) (by
    cases q : H b with
    | none => rfl
    | some u =>
      obtain ⟨rfl, n, -⟩ := cases_ b u q
      rw [n] at e; cases e)
  have script : SqL K H a (ns.map V.int) := by
    cases q : K.lookup a with
    | none => exact .inl (.inr ⟨o, by show (if a = a then _ else _) = _; rw [if_pos rfl, q]⟩)
    | some ob =>
      have e := KX a ob q
      rw [ha] at e; cases e
      exact .inr ⟨_, vs.toArray, _, q, rfl, rfl, rfl, by rw [List.size_toArray, size]; exact hl, by simpa using values⟩
  have okH : HOk P w H s₁.heap := fun b u e => by
    obtain ⟨rfl, -, rfl⟩ := cases_ b u e
    exact ⟨ha, by rw [List.length_map]; exact hl, vs, _, values, ha⟩
  have room0 : Env0 P w K mg (hidT s₁.heap H) callerA [] s₁ H :=
    ⟨rfl, ⟨inK, names hns, ⟨mb, names hb, hbb⟩, hlim.imp fun mc h => ⟨names h.1, h.2⟩⟩, fun b ob e => of_hidT e, Nat.le_of_eq (hidT_size _ _), trivial, (fun b hb => nomatch hb), okH, .of_eq hg⟩
  refine codeAny_mono ((F _ inK (names hns)).runs callerA [] s₁ H _ [.ref a] [.ref a] _ _ hr room0 (hbind s₁ (.ref a)) (.cons rfl .nil) (hsp H script)) fun r s' h => ?_
  rcases r with e | fl
  · exact (hCX H e s' h).elim
  obtain ⟨u, rfl⟩ : ∃ u, fl = .ret u := by
    cases fl with
    | ret u => exact ⟨u, rfl⟩
    | _ => exact False.elim h
  obtain ⟨v, H', os, bare, un, hok', rv, rfl⟩ := h
  obtain rfl : u = Value.bool true := rv
  refine ⟨rfl, OldK.of_keep fun b ob e => ?_, os, bare⟩
  cases q : H b with
  | none => exact un.keep b ob e q (fun z => nomatch z) (fun z => nomatch z)
  | some u =>
    obtain ⟨rfl, -, rfl⟩ := cases_ b u q
    obtain ⟨e2, _⟩ := hok' b _ (un.frzs b _ _ q)
    rw [ha] at e; cases e
    exact e2
theorem walk_G {l : PySem.W.OpenLaw} {n : Nat} {q : Program} {loose : List Str} {XP : (Str → Option Value) → Heap → Prop} {YP : World → Heap → Prop} {d : DefRec} {K : Params → PySem.W.Frag} {CX : World → CXT} {F : World → FunT}
    (hn : l.most = some n) (hn2 : n ≤ sizeLine) (hdf : d.params.defaults = []) (hr : Room k callerA)
    (hY : ∀ (w : World) (h : Heap), YP w h → (K w.params).In h)
    (G : ∀ (w : World) (mg : Str → Option Value) (fa : Addr) (h : Heap), (K w.params).In h → h.Ns mainGlobals mg → mg d.name = some (.ref fa) →
      ∃ (fd : FuncData) (C : Ctx), C.K = K w.params ∧ (∀ (s : Shared) (u : Value), BindsTo s fd ⟨[u], []⟩ [(x, u)]) ∧
        ∀ base : Heap, (K w.params).In base → base.Ns mainGlobals mg → FnG l.prog w (K w.params) mg base (CX w) k fa fd [x] (spM C 1 (F w)))
    (hF : ∀ (w : World) (ns : List Int), ns.length ≤ n → ∃ h, F w [.scr ns] [] = .ok (.bl true) h)
    (hCX : ∀ (w : World) (H : Hp) (s : Shared) (e : Value) (s' : Shared), CX w [] H s (fun _ _ _ => False) e s' → False) :
    PySem.W.WalkO q loose XP YP l.row.toRowW d [] (fun f vs => PySem.call f vs) := by
  refine Att.attach_call hn hdf fun w s₀ s₁ mg mb fa o pm cd doc a vs ns Gr Y _ _ _ hmg hobj hints hlen hg => ?_
  obtain ⟨fd, C, hK, hb, hG⟩ := G w mg fa _ (hY w _ Y) Gr.T.g hmg
  refine law_callG (hY w _ Y) Gr.T.g Gr.T.b Gr.T.builtins Gr.T.nolimit hg hobj hints (Nat.le_trans hlen hn2) ⟨hr, rfl⟩ hG hb (fun H hS => ?_) fun H => hCX w H s₁
  obtain ⟨h, e⟩ := hF w ns hlen
  refine ⟨rfl, ⟨[], []⟩, [], [.scr ns], ⟨rfl, (fun m n a z => nomatch z), (fun n a z => nomatch z), (fun n o z => nomatch z), (fun a z => nomatch z), (fun n a z => nomatch z)⟩, ?_, ?_⟩
  · refine RelL.cons ?_ RelL.nil
    simp only [Rel]
    refine ⟨a, rfl, ?_, Nat.le_trans hlen hn2⟩
    rcases hS with hS | hS
    · exact .inl ⟨hS, (fun n z => nomatch z), (fun z => nomatch z)⟩
    · exact .inr (hK ▸ hS)
  · rw [e]
    exact fun ρ' H' v x s r => of_bl r
end
end EV


/-! EvO: the rules in the shape that the printed proofs use. -/
namespace EV
open PySem PySem.Spec PyProof.Rows L2

theorem bb_len : bootBuiltins "len" = some (.builtin "len") := by rfl
theorem bb_all : bootBuiltins "all" = some (.builtin "all") := by rfl
theorem bb_any : bootBuiltins "any" = some (.builtin "any") := by rfl
theorem bb_sum : bootBuiltins "sum" = some (.builtin "sum") := by rfl
theorem bb_abs : bootBuiltins "abs" = some (.builtin "abs") := by rfl
theorem bb_max : bootBuiltins "max" = some (.builtin "max") := by rfl
theorem bb_min : bootBuiltins "min" = some (.builtin "min") := by rfl
theorem bb_divmod : bootBuiltins "divmod" = some (.builtin "divmod") := by rfl
theorem bb_isinstance : bootBuiltins "isinstance" = some (.builtin "isinstance") := by rfl
theorem bb_repr : bootBuiltins "repr" = some (.builtin "repr") := by rfl
theorem bt_int : bootBuiltins "int" = some (.type "int") := by rfl
theorem bt_str : bootBuiltins "str" = some (.type "str") := by rfl
theorem bt_bool : bootBuiltins "bool" = some (.type "bool") := by rfl
theorem bt_tuple : bootBuiltins "tuple" = some (.type "tuple") := by rfl
theorem bt_list : bootBuiltins "list" = some (.type "list") := by rfl
theorem bt_dict : bootBuiltins "dict" = some (.type "dict") := by rfl
theorem ne_name {x y : Str} (h : (x == y) = false) : x ≠ y := beq_eq_false_iff_ne.mp h
def visB (sc : Scope) (x : Str) : Bool := match sc.names.lookup x with
  | some .local => true
  | some .cell => true
  | some .free => true
  | _ => false
/-- a name of the top and its value -/
structure GVal (C : Ctx) (mg : Str → Option Value) (x : Str) (d : D) : Prop where
  ex : ∃ (v : V) (u : Value), mg x = some u ∧ RelV v u ∧ ∀ ρ H, Rel C ρ H d v
/-- a def of the top: dd its defaults that fill up -/
structure CallOk (C : Ctx) (P : Program) (w : World) (mg : Str → Option Value) (base : Heap) (CX : CXT) (k : Nat) (x : Str) (n : Nat) (F : FunT) (dd : List D) : Prop where
  ex : ∃ (f : Addr) (fd : FuncData) (ps : List Str) (dvs : List V) (ds : List Value), mg x = some (.ref f) ∧ PySem.W.keepIn C.K (.ref f) = true ∧ FnG P w C.K mg base CX k f fd ps (spM C n F) ∧ Binds C.K fd ps ds ∧ Vals dvs ds ∧ ∀ ρ H, RelL C ρ H dd dvs
/-- .. called by keywords -/
structure CallKw (C : Ctx) (P : Program) (w : World) (mg : Str → Option Value) (base : Heap) (CX : CXT) (k : Nat) (x : Str) (n : Nat) (F : FunT) (i : Nat) (ks : List Str) (gD : List D → List D → List D) : Prop where
  ex : ∃ (f : Addr) (fd : FuncData) (ps : List Str) (g : List Value → List Value → List Value) (gV : List V → List V → List V), mg x = some (.ref f) ∧ PySem.W.keepIn C.K (.ref f) = true ∧ FnG P w C.K mg base CX k f fd ps (spM C n F) ∧ KBn C.K fd ps i ks g gV ∧
    ∀ ρ H ds vs es zs, RelL C ρ H ds vs → RelL C ρ H es zs → RelL C ρ H (gD ds es) (gV vs zs)
theorem passAt0 {X : Cx} {σ : L2.St} {E : XK} : PassesAt CX0 X σ E := fun _ _ _ _ _ _ h => h.elim

section
variable {X : Cx} {C : Ctx} {W : WX} {CX : CXT} {pos p q cpos apos : Pos} {x : Str} {a b e o : Expr} {es rest : List Expr} {ms mk : M (List D)} {ma mb mo : M D} {ta tb : M Bool} {d : D} {i k n j : Nat} {F : FunT} {dd : List D} {kws : List Keyword}
theorem ev_pv (hN : X.N[i]? = some x) (hv : visB X.env.scope x = true) (hd : (x == ("__debug__" : Str)) = false) (hc : (x == ("__classdict__" : Str)) = false) : PE X (.Name x pos) (tE C W (mvar i)) :=
  ev_var (pe_var hN (by
    unfold visB at hv
    unfold Vis
    split at hv
    · rename_i z; exact .inl z
    · rename_i z; exact .inr (.inl z)
    · rename_i z; exact .inr (.inr z)
    · cases hv) hd hc)
theorem ev_int {i : Int} {j : Nat} : PE X (.Constant (.int i) j pos) (tE C W (mc (.int i))) := ev_const pe_int fun _ _ => rel_int
theorem ev_bl {b : Bool} {j : Nat} : PE X (.Constant (.bool b) j pos) (tE C W (mc (.bl b))) := ev_const pe_bl fun _ _ => rel_bl
theorem ev_non {j : Nat} : PE X (.Constant .none j pos) (tE C W (mc .non)) := ev_const pe_non fun _ _ => rel_non
theorem ev_str {z : Str} {j : Nat} (h : decide (z.length ≤ 100000) = true) : PE X (.Constant (.str z) j pos) (tE C W (mc (.str z))) := ev_const pe_str fun _ _ => rel_str (by have := of_decide_eq_true h; rw [sizeLine_eq]; omega)
theorem ev_glob (g : GVal C X.mg x d) (hg : X.env.kindOf x = some .globalImplicit) (hd : (x == ("__debug__" : Str)) = false) : PE X (.Name x pos) (tE C W (mc d)) := by
  obtain ⟨v, u, e, r, z⟩ := g.ex
  exact ev_const (pe_glob hg e r hd) z
theorem ev_ty {t : Ty} (hm : X.mg x = none) (hg : X.env.kindOf x = some .globalImplicit) (hv : bootBuiltins x = some (.type t.nm)) (hn : (x == ("__name__" : Str)) = false) (hd : (x == ("__debug__" : Str)) = false) : PE X (.Name x pos) (tE C W (mc (.ty t))) :=
  ev_const (pe_bltn (v := .ty t.nm) hg hm hv rfl (ne_name hn) hd) fun _ _ => by simp only [Rel]
def mdic0 : M D := fun _ h => .ok (.dic [] []) h
theorem ev_dic0 : PE X (.Dict [] [] pos) (tE C W mdic0) := weakE pe_dnewK fun σ H Q ⟨ρ, env, hd, er, sh, p⟩ q hq => by
  refine p _ _ _ (Ext.upd_new hq) (sh.upd_new hq) ?_
  simp only [Rel]
  exact ⟨q, [], rfl, ⟨upd_same, sh.unm hq⟩, RelL.nil, rfl⟩
theorem ev_B {m : Bool} {id : String} {f : OpN} (hc : CallR X (.builtin id) (rON C f)) (hm : X.mg x = none) (hg : X.env.kindOf x = some .globalImplicit) (hv : bootBuiltins x = some (.builtin id)) (ha : PA X (e :: es) (tL C W ms))
    (hn : (x == ("__name__" : Str)) = false) (hd : (x == ("__debug__" : Str)) = false) (hs : noStars (e :: es) = true) : PE X (.Call (.Name x p) (e :: es) [] pos) (tE C W (mfun m f ms)) := ev_callB hc hg hm hv ha (ne_name hn) hd hs
theorem ev_T {m : Bool} {T : String} {f : OpN} (hc : CallR X (.type T) (rON C f)) (hm : X.mg x = none) (hg : X.env.kindOf x = some .globalImplicit) (hv : bootBuiltins x = some (.type T)) (ha : PA X (e :: es) (tL C W ms))
    (hn : (x == ("__name__" : Str)) = false) (hd : (x == ("__debug__" : Str)) = false) (hs : noStars (e :: es) = true) : PE X (.Call (.Name x p) (e :: es) [] pos) (tE C W (mfun m f ms)) := ev_callTy hc hg hm hv ha (ne_name hn) hd hs
theorem ev_user (hK : X.K = C.K) (c : CallOk C X.prog X.w X.mg X.base CX j x n F dd) (hr : RoomG k X.A) (hj : decide (j ≤ k) = true) (hg : X.env.kindOf x = some .globalImplicit) (hx : ∀ σ, PassesAt CX X σ fun c d H => W c d σ H) (ha : PA X (e :: es) (tL C W ms))
    (hd : (x == ("__debug__" : Str)) = false) (hs : noStars (e :: es) = true) : PE X (.Call (.Name x p) (e :: es) [] pos) (tE C W (mcall F n dd ms)) := by
  obtain ⟨f, fd, ps, dvs, ds, e1, e2, G, b, v, r⟩ := c.ex
  rw [← hK] at e2 G b
  exact ev_call G (hr.weak (of_decide_eq_true hj)) hg e1 e2 b v r hx ha hd hs
theorem ev_user0 (hK : X.K = C.K) (c : CallOk C X.prog X.w X.mg X.base CX j x n F dd) (hr : RoomG k X.A) (hj : decide (j ≤ k) = true) (hg : X.env.kindOf x = some .globalImplicit) (hx : ∀ σ, PassesAt CX X σ fun c d H => W c d σ H)
    (hd : (x == ("__debug__" : Str)) = false) : PE X (.Call (.Name x p) [] [] pos) (tE C W (mcall F n dd mnil)) := by
  obtain ⟨f, fd, ps, dvs, ds, e1, e2, G, b, v, r⟩ := c.ex
  rw [← hK] at e2 G b
  exact ev_call0 G (hr.weak (of_decide_eq_true hj)) hg e1 e2 b v r hx hd
theorem ev_userN {ks : List Str} {gD : List D → List D → List D} (hK : X.K = C.K) (c : CallKw C X.prog X.w X.mg X.base CX j x n F i ks gD) (hr : RoomG k X.A) (hj : decide (j ≤ k) = true) (hg : X.env.kindOf x = some .globalImplicit) (hx : ∀ σ, PassesAt CX X σ fun c d H => W c d σ H) (ha : PA X (e :: es) (tL C W ms)) (hkw : PK X kws (tL C W mk))
    (hall : (backToKw pos (keywordEach kws X.env)).all (·.1.isSome) = true) (hks : (backToKw pos (keywordEach kws X.env)).filterMap (·.1) = ks) (hno : (backToKw pos (keywordEach kws X.env)).any (·.1.isNone) = false)
    (hd : (x == ("__debug__" : Str)) = false) (hs : noStars (e :: es) = true) : PE X (.Call (.Name x p) (e :: es) kws pos) (tE C W (mcallN F n i ks.length gD ms mk)) := by
  obtain ⟨f, fd, ps, g, gV, e1, e2, G, b, r⟩ := c.ex
  rw [← hK] at e2 G b
  exact ev_callN G (hr.weak (of_decide_eq_true hj)) hg e1 e2 b r hx ha hkw hall hks hno hd hs
theorem ev_append (hK : X.K = C.K) (ho : PE X o (tE C W mo)) (ha : PE X e (tE C W ma)) (hb : baseOk o = true) (hs : notStar e = true) (hl : (apos.endLine == cpos.line) = true) :
    PE X (.Call (.Attribute o "append" apos) [e] [] cpos) (tE C W (mmeth isLst fAppend mo (mcons ma mnil))) :=
  ev_meth1 PySem.F.plainAttrs_list PySem.F.slot_list_append PySem.F.type_list_append mt_app (isLst_ty hK) ho (evl_cons ha evl_nil hs) hb hs hl
theorem ev_pop (hK : X.K = C.K) (ho : PE X o (tE C W mo)) (ha : PE X e (tE C W ma)) (hb : baseOk o = true) (hs : notStar e = true) (hl : (apos.endLine == cpos.line) = true) :
    PE X (.Call (.Attribute o "pop" apos) [e] [] cpos) (tE C W (mmeth isLst fPop mo (mcons ma mnil))) :=
  ev_meth1 PySem.F.plainAttrs_list PySem.F.slot_list_pop PySem.F.type_list_pop mt_popI (isLst_ty hK) ho (evl_cons ha evl_nil hs) hb hs hl
theorem ev_extend (hK : X.K = C.K) (ho : PE X o (tE C W mo)) (ha : PE X e (tE C W ma)) (hb : baseOk o = true) (hs : notStar e = true) (hl : (apos.endLine == cpos.line) = true) :
    PE X (.Call (.Attribute o "extend" apos) [e] [] cpos) (tE C W (mmeth isLst fExtend mo (mcons ma mnil))) :=
  ev_meth1 PySem.F.plainAttrs_list PySem.F.slot_list_extend PySem.F.type_list_extend mt_ext (isLst_ty hK) ho (evl_cons ha evl_nil hs) hb hs hl
theorem ev_join (hK : X.K = C.K) (ho : PE X o (tE C W mo)) (ha : PE X e (tE C W ma)) (hb : baseOk o = true) (hs : notStar e = true) (hl : (apos.endLine == cpos.line) = true) :
    PE X (.Call (.Attribute o "join" apos) [e] [] cpos) (tE C W (mmeth isStr fJoin mo (mcons ma mnil))) :=
  ev_meth1 PySem.F.plainAttrs_str PySem.F.slot_str_join PySem.F.type_str_join (mt_joinS hK) isStr_ty ho (evl_cons ha evl_nil hs) hb hs hl
theorem ev_rng1 (hm : X.mg "range" = none) (hg : X.env.kindOf "range" = some .globalImplicit) (ha : PE X a (tE C W ma)) (hs : notStar a = true) {tg : Expr} : PI X tg (.Call (.Name "range" p) [a] [] q) (tI C W (irng irange1 (mcons ma mnil))) :=
  evi_range1 hg hm (evl_cons ha evl_nil hs) hs
theorem ev_rng2 (hm : X.mg "range" = none) (hg : X.env.kindOf "range" = some .globalImplicit) (ha : PE X a (tE C W ma)) (hb : PE X b (tE C W mb)) (hs : notStar a = true) (hs2 : notStar b = true) {tg : Expr} : PI X tg (.Call (.Name "range" p) [a, b] [] q) (tI C W (irng irange2 (mcons ma (mcons mb mnil)))) :=
  evi_range2 hg hm (evl_cons ha (evl_cons hb evl_nil hs2) hs) hs hs2
theorem fn_ok {C : Ctx} {CX : CXT} {P : Program} {w : World} {mg : Str → Option Value} {base : Heap} {k : Nat} {f : Addr} {x qual : Str} {params : Arguments} {body : List Stmt} {scope : Scope} {dvs : List V} {kws : List (Str × V)} {fd : FuncData} {N ps : List Str} {m : MS} {nN nP : Nat} {F : FunT}
    (FD : FunD C.K x qual params body scope dvs kws f fd) (S : FnScope N ps scope) (hN : N.length = nN) (hP : ps.length = nP) (hF : F = runB nN m)
    (hb : ∀ (cdv : Value) (A : Around) (outer : List PySem.Env) (s : Shared) (H : Hp) (E : XK), RoomG k (A.deeper (envOfC qual scope s.heap.objs.size f cdv)) →
      PSs (cxOf CX P w C.K mg base N qual scope f cdv A outer s H E) body (tS C (fun c d _ H => E c d H) m)) : FnG P w C.K mg base CX (k + 1) f fd ps (spM C nP F) := by
  subst hN; subst hP; subst hF
  exact fn_sound FD S hb
theorem yes_t (σ : L2.St) (H : Hp) (Q : Bool → Hp → Prop) (h : tT C W0 yes σ H Q) : tYes σ H Q := by
  obtain ⟨ρ, env, hd, er, sh, p⟩ := h
  exact p.here sh rfl
/-- what the evaluator does not know: nothing is said of it (its term is stuck) -/
def mbad : M D := fun _ _ => .bad
def sBad : MS := fun _ _ => none
theorem ev_bad : PE X e (tE C W mbad) := ⟨fun _ _ _ _ _ _ ⟨_, _, _, _, _, p⟩ => p.elim⟩
theorem evt_bad : PT X e (tT C W (mtru mbad)) := ⟨fun _ _ _ _ _ _ ⟨_, _, _, _, _, p⟩ => p.elim⟩
theorem evs_bad {st : Stmt} : PS X st (tS C W sBad) := ⟨fun _ _ _ _ _ _ ⟨_, _, _, _, _, p⟩ => p.elim⟩
/-- a local name (k: it is a cell, in the def's own frame) -/
def locB (sc : Scope) (x : Str) : Bool := match sc.names.lookup x with
  | some .local => true
  | _ => false
def cellB (sc : Scope) (x : Str) : Bool := match sc.names.lookup x with
  | some .cell => true
  | _ => false
theorem evg_n {y : Str} (hN : X.N.Nodup) (hi : X.N[i]? = some y) (hl : locB X.env.scope y = true) : PG X (.Name y pos) (tG C [i] (gname i)) := by
  have h : X.env.scope.names.lookup y = some .local := by
    unfold locB at hl
    split at hl
    · assumption
    · cases hl
  exact evg_name (pg_name hN hi (.inl h) (.inr h))
theorem evg_c {y : Str} (hN : X.N.Nodup) (hi : X.N[i]? = some y) (hl : cellB X.env.scope y = true) (hf : X.fn y = true) : PG X (.Name y pos) (tG C [i] (gname i)) := by
  have h : X.env.scope.names.lookup y = some .cell := by
    unfold cellB at hl
    split at hl
    · assumption
    · cases hl
  exact evg_name (pg_name hN hi (.inr h) (.inl hf))
theorem own_cx {CX : CXT} {P : Program} {w : World} {K : PySem.W.Frag} {mg : Str → Option Value} {base : Heap} {N : List Str} {qual : Str} {scope : Scope} {f : Addr} {cd : Value} {A : Around} {outer : List PySem.Env} {s : Shared} {H : Hp} {E : XK} :
    PassesOwn (model P w) (cxOf CX P w K mg base N qual scope f cd A outer s H E).A (cxOf CX P w K mg base N qual scope f cd A outer s H E).env (cxOf CX P w K mg base N qual scope f cd A outer s H E).xe :=
  passes_of (X := cxOf CX P w K mg base N qual scope f cd A outer s H E) (K := fun e s'' => CX outer H s E e s'') rfl
end
end EV


/-! EvP: from what the top has written to the promises. -/
namespace EV
open PySem PySem.Spec PyProof.Rows L2
section
variable {P : Program} {w : World} {K : PySem.W.Frag} {mg : Str → Option Value} {base : Heap} {x : Str} {st : Stmt} {f T E Dk : Addr} {oc dc pm cd ct kV : Value} {od an : Option Addr} {osl : Array (Option Value)} {C : Ctx} {fd : FuncData} {CX : CXT} {k n : Nat} {F : FunT} {ps : List Str}
theorem fund0 (l : K.lookup f = some ⟨oc, od, .func (PySem.W.fnOf x x (defArgs st) (defBody st) (defScope st) .none kV dc pm an cd ct), osl⟩) (c : PySem.W.codeIn K cd x = true) (k : PySem.W.keepIn K (.ref f) = true) :
    FunD K x x (defArgs st) (defBody st) (defScope st) [] [] f (PySem.W.fnOf x x (defArgs st) (defBody st) (defScope st) .none kV dc pm an cd ct) :=
  ⟨⟨oc, od, .none, kV, dc, pm, an, cd, ct, osl, rfl, l, c, .inl ⟨rfl, rfl⟩, .inl rfl⟩, k⟩
/-- positional defaults -/
theorem fund1 {o : Obj} {its : List Value} {m : Nat} {dvs : List V} (l : K.lookup f = some ⟨oc, od, .func (PySem.W.fnOf x x (defArgs st) (defBody st) (defScope st) (.ref T) kV dc pm an cd ct), osl⟩) (c : PySem.W.codeIn K cd x = true) (k : PySem.W.keepIn K (.ref f) = true)
    (lT : K.lookup T = some o) (oT : o.data = .seq its.toArray m) (r : Vals dvs its) (hn : dvs ≠ []) :
    FunD K x x (defArgs st) (defBody st) (defScope st) dvs [] f (PySem.W.fnOf x x (defArgs st) (defBody st) (defScope st) (.ref T) kV dc pm an cd ct) :=
  ⟨⟨oc, od, .ref T, kV, dc, pm, an, cd, ct, osl, rfl, l, c, .inr ⟨hn, T, o, its, m, rfl, lT, oT, r⟩, .inl rfl⟩, k⟩
/-- .. and by keyword only -/
theorem fund2 {o : Obj} {its : List Value} {m : Nat} {dvs : List V} {kws : List (Str × V)} (l : K.lookup f = some ⟨oc, od, .func (PySem.W.fnOf x x (defArgs st) (defBody st) (defScope st) (.ref T) (.ref Dk) dc pm an cd ct), osl⟩) (c : PySem.W.codeIn K cd x = true) (k : PySem.W.keepIn K (.ref f) = true)
    (lT : K.lookup T = some o) (oT : o.data = .seq its.toArray m) (r : Vals dvs its) (hn : dvs ≠ []) (hk : ∀ q ∈ kws, ∃ u, PySem.W.nsIn K Dk q.1 = some (some u) ∧ RelV q.2 u) :
    FunD K x x (defArgs st) (defBody st) (defScope st) dvs kws f (PySem.W.fnOf x x (defArgs st) (defBody st) (defScope st) (.ref T) (.ref Dk) dc pm an cd ct) :=
  ⟨⟨oc, od, .ref T, .ref Dk, dc, pm, an, cd, ct, osl, rfl, l, c, .inr ⟨hn, T, o, its, m, rfl, lT, oT, r⟩, .inr ⟨Dk, rfl, hk⟩⟩, k⟩
theorem callOk0 {qual : Str} {params : Arguments} {body : List Stmt} {scope : Scope} {dvs : List V} {kws : List (Str × V)} (FD : FunD C.K x qual params body scope dvs kws f fd) (hm : mg x = some (.ref f)) (G : FnG P w C.K mg base CX k f fd ps (spM C n F)) (b : Binds C.K fd ps []) : CallOk C P w mg base CX k x n F [] :=
  ⟨f, fd, ps, [], [], hm, FD.kp, G, b, .nil, fun _ _ => RelL.nil⟩
theorem callOkD {qual : Str} {params : Arguments} {body : List Stmt} {scope : Scope} {dvs : List V} {kws : List (Str × V)} {ws : List V} {dd : List D} (FD : FunD C.K x qual params body scope dvs kws f fd) (hm : mg x = some (.ref f)) (G : FnG P w C.K mg base CX k f fd ps (spM C n F))
    (b : ∃ ds, Vals ws ds ∧ Binds C.K fd ps ds) (r : ∀ ρ H, RelL C ρ H dd ws) : CallOk C P w mg base CX k x n F dd := by
  obtain ⟨ds, v, b⟩ := b
  exact ⟨f, fd, ps, ws, ds, hm, FD.kp, G, b, v, r⟩
theorem callKwD {qual : Str} {params : Arguments} {body : List Stmt} {scope : Scope} {dvs : List V} {kws : List (Str × V)} {i : Nat} {ks : List Str} {gD : List D → List D → List D} {gV : List V → List V → List V} {g : List Value → List Value → List Value → List Value → List Value} (FD : FunD C.K x qual params body scope dvs kws f fd) (hm : mg x = some (.ref f)) (G : FnG P w C.K mg base CX k f fd ps (spM C n F))
    (b : ∃ its mv : List Value, KBn C.K fd ps i ks (fun us ws => g us its mv ws) gV) (r : ∀ ρ H ds vs es zs, RelL C ρ H ds vs → RelL C ρ H es zs → RelL C ρ H (gD ds es) (gV vs zs)) : CallKw C P w mg base CX k x n F i ks gD := by
  obtain ⟨its, mv, b⟩ := b
  exact ⟨f, fd, ps, _, gV, hm, FD.kp, G, b, r⟩
theorem gval_str {z : Str} {t : Nat} (h : mg x = some (.str z t)) (hz : decide (z.length ≤ 100000) = true) : GVal C mg x (.str z) :=
  ⟨.str z, _, h, ⟨t, rfl⟩, fun _ _ => rel_str (by have := of_decide_eq_true hz; rw [sizeLine_eq]; omega)⟩
theorem gval_int {i : Int} {t : Nat} (h : mg x = some (.int i t)) : GVal C mg x (.int i) := ⟨.int i, _, h, ⟨t, rfl⟩, fun _ _ => rel_int⟩
/-- a tuple of the written part -/
theorem rel_kt {ρ : RhoT} {H : Hp} {o : Obj} {its : List Value} {m : Nat} {xs : List D} {vs : List V} (lT : C.K.lookup T = some o) (hc : o.cls = .type "tuple") (oT : o.data = .seq its.toArray m) (r : Vals vs its) (q : RelL C ρ H xs vs) (hz : decide (xs.length ≤ 1000) = true) : Rel C ρ H (.tup xs) (.ref T) := by
  have h1 := q.length
  have h2 := r.length
  have h3 := of_decide_eq_true hz
  simp only [Rel]
  exact ⟨T, vs, rfl, .inr ⟨o, its.toArray, m, lT, hc, oT, by rw [List.size_toArray, sizeLine_eq]; omega, by simpa using r⟩, q, by rw [sizeLine_eq]; omega⟩
theorem gval_ref {d : D} (h : mg x = some (.ref T)) (r : ∀ ρ H, Rel C ρ H d (.ref T)) : GVal C mg x d := ⟨.ref T, _, h, rfl, r⟩
end
end EV


/-! EvV: dicts: d.get(k, x), d[k]. -/
namespace EV
open PySem PySem.Spec PyProof.Rows L2
def dicOf (d : D) (h : Hd) : Option (List Key × List D) := match d with
  | .dic ks xs => some (ks, xs)
  | .ref n => match h[n]? with
    | some (.dic ks xs) => some (ks, xs)
    | _ => none
  | _ => none
def keyOf : D → Option Key
  | .int i => some (.inl i)
  | .str s => some (.inr s)
  | _ => none
def valD : List Key → List D → Key → Option D
  | k :: ks, x :: xs, q => if k = q then some x else valD ks xs q
  | _, _, _ => none
section
variable {X : Cx} {C : Ctx} {W : WX} {ρ : RhoT} {H : Hp} {hd : Hd} {σ : L2.St} {apos cpos pos : Pos} {o e f i : Expr} {mo me mf : M D}
theorem dic_of {d : D} {v : V} {ks : List Key} {xs : List D} (sh : SimH C ρ H hd) (r : Rel C ρ H d v) (e : dicOf d hd = some (ks, xs)) : ∃ a vs, v = .ref a ∧ H a = some (.dK (ks.zip vs)) ∧ RelL C ρ H xs vs ∧ ks.length = xs.length := by
  cases d with
  | dic ks' xs' =>
    simp only [dicOf, Option.some.injEq, Prod.mk.injEq] at e
    obtain ⟨rfl, rfl⟩ := e
    simp only [Rel] at r
    obtain ⟨a, vs, e, t, rl, z⟩ := r
    exact ⟨a, vs, e, t.1, rl, z⟩
  | ref n =>
    simp only [Rel] at r
    obtain ⟨a, rfl, q⟩ := r
    simp only [dicOf] at e
    split at e
    · rename_i ks' xs' h
      cases e
      rcases q with q | q
      · obtain ⟨o, h1, h2⟩ := sh.at_ n a q
        rw [h] at h1; cases h1
        obtain ⟨vs, t, rl, z⟩ := (show ∃ vs, H a = some (.dK (ks.zip vs)) ∧ RelL C ρ H xs vs ∧ ks.length = xs.length from h2)
        exact ⟨a, vs, rfl, t, rl, z⟩
      · cases sh.live n _ h q
    · cases e
  | _ => cases e
theorem key_of {d : D} {v : V} {k : Key} (r : Rel C ρ H d v) (e : keyOf d = some k) : v = kV k := by
  cases d with
  | int i => cases e; exact of_int r
  | str s => cases e; exact (of_str r).1
  | _ => cases e
theorem val_of (q : Key) : ∀ {ks : List Key} {xs : List D} {vs : List V}, RelL C ρ H xs vs → ks.length = xs.length → (∀ x, valD ks xs q = some x → ∃ v, valV (ks.zip vs) q = some v ∧ Rel C ρ H x v) ∧ (valD ks xs q = none → valV (ks.zip vs) q = none)
  | [], [], vs, r, _ => ⟨(fun x e => nomatch (show (none : Option D) = some x from e)), (fun _ => rfl)⟩
  | [], _ :: _, _, _, z => by cases z
  | _ :: _, [], _, _, z => by cases z
  | k :: ks, x :: xs, vs, r, z => by
    simp only [RelL] at r
    obtain ⟨v, vr, rfl, r1, r2⟩ := r
    have ih := val_of q (ks := ks) r2 (by simpa using z)
    rw [List.zip_cons_cons]
    by_cases hk : k = q
    · refine ⟨fun y e => ?_, fun e => ?_⟩
      · simp only [valD, if_pos hk, Option.some.injEq] at e
        subst e
        exact ⟨v, valV_pos hk, r1⟩
      · simp only [valD, if_pos hk] at e
        cases e
    · rw [valV_neg (p := (k, v)) hk]
      refine ⟨fun y e => ?_, fun e => ?_⟩
      · simp only [valD, if_neg hk] at e
        exact ih.1 y e
      · simp only [valD, if_neg hk] at e
        exact ih.2 e
/-- d.get(k, x) -/
def mget2 (o e f : M D) : M D := fun env h => (o env h).bind fun d h1 => match dicOf d h1 with
  | none => .bad
  | some _ => (e env h1).bind fun k h2 => (f env h2).bind fun x h3 => match dicOf d h3, keyOf k with
    | some (ks, xs), some q => .ok ((valD ks xs q).getD x) h3
    | _, _ => .bad
theorem ev_get2 (hu : X.A.units + 64 < cLine) (ho : PE X o (tE C W mo)) (he : PE X e (tE C W me)) (hf : PE X f (tE C W mf)) (hb : baseOk o = true) (hs : notStar e = true) (hs2 : notStar f = true) (hl : (apos.endLine == cpos.line) = true) :
    PE X (.Call (.Attribute o "get" apos) [e, f] [] cpos) (tE C W (mget2 mo me mf)) :=
  weakE (pe_dget2 (by omega) ho he hf ⟨base_of hb, by rw [starEach_at hs, starEach_at hs2]; rfl, hl, by rw [starEach_at hs, starEach_at hs2]; rfl⟩) fun σ H Q ⟨ρ, env, hd, er, sh, p⟩ =>
    seqE er sh p fun v H1 ρ1 hd1 d x er1 sh1 r1 p1 => by
      split at p1
      · exact p1.elim
      · rename_i kx e1
        obtain ⟨ks, xs⟩ := kx
        obtain ⟨a, vs, rfl, t, _⟩ := dic_of sh1 r1 e1
        refine ⟨a, rfl, .inl ⟨_, .inl t⟩, seqE er1 sh1 p1 fun y H2 ρ2 hd2 dk x2 er2 sh2 r2 p2 => seqE er2 sh2 p2 fun z H3 ρ3 hd3 dz x3 er3 sh3 r3 p3 => ?_⟩
        split at p3
        · rename_i ks' xs' q e3 ek
          obtain ⟨b, vs', eb, t', rl, hz⟩ := dic_of sh3 (Rel.ext (x2.trans x3) _ _ r1) e3
          cases eb
          have hv := val_of q rl hz
          refine ⟨_, key_of (Rel.ext x3 _ _ r2) ek ▸ DGet.k t', ?_⟩
          cases ev : valD ks' xs' q with
          | none =>
            rw [hv.2 ev]
            rw [ev] at p3
            exact p3.here sh3 r3
          | some w =>
            obtain ⟨u, eu, ru⟩ := hv.1 w ev
            rw [eu]
            rw [ev] at p3
            exact p3.here sh3 ru
        · exact p3.elim
/-- d[k], d a dict or a sequence -/
def mixd (o e : M D) : M D := fun env h => (o env h).bind fun d h1 => (e env h1).bind fun k h2 => match dicOf d h2, keyOf k with
  | some (ks, xs), some q => (match valD ks xs q with | some x => .ok x h2 | none => .bad)
  | _, _ => fin false (oIx d k h2) h2
/-- x, y = a, b -/
def sPar2 (i j : Nat) (as : M (List D)) : MS := fun env h => match as env h with
  | .ok [v, w] h1 => some (.nx, (env.set i (some v)).set j (some w), h1)
  | .exc x h1 => some (.exc x, env, h1)
  | _ => none
def sPar3 (i j l : Nat) (as : M (List D)) : MS := fun env h => match as env h with
  | .ok [v, w, u] h1 => some (.nx, ((env.set i (some v)).set j (some w)).set l (some u), h1)
  | .exc x h1 => some (.exc x, env, h1)
  | _ => none
theorem evs_par2 {j i : Nat} {x y : Str} {a b : Expr} {ms : M (List D)} {px py pt : Pos} {kt k2 : Nat} {pt2 : Pos} (hc : X.calm = true) (hN : X.N.Nodup) (hi : X.N[i]? = some x) (hj : X.N[j]? = some y) (hij : i ≠ j)
    (hx : X.env.scope.names.lookup x = some .local) (hy : X.env.scope.names.lookup y = some .local) (ha : PA X [a, b] (tL C W ms)) (hw : swappedStores [.Tuple [.Name x px, .Name y py] kt pt] (.Tuple [a, b] k2 pt2) X.env = pure (some [x, y])) 
    (hs : swapsWithSole [.Tuple [.Name x px, .Name y py] kt pt] (.Tuple [a, b] k2 pt2) pos.line X.env = pure false) :
    PS X (.Assign [.Tuple [.Name x px, .Name y py] kt pt] (.Tuple [a, b] k2 pt2) pos) (tS C W (sPar2 i j ms)) :=
  weakS (ps_par hc hN hi hj hij hx hy ha hw hs) fun Z σ H ⟨ρ, env, hd, er, sh, p⟩ => by
    refine ⟨ρ, env, hd, er, sh, ?_⟩
    unfold sPar2 at p
    cases hm : ms env hd with
    | bad => rw [hm] at p; exact p.elim
    | exc x h => rw [hm] at p; exact fun ρ1 H1 dd y s r => p ρ1 H1 σ y s (er.ext y) rfl dd r
    | ok ds h =>
      rw [hm] at p
      split at p
      · rename_i v w h1 e
        cases e
        intro ρ1 H1 vs x1 s1 r
        obtain ⟨v', w', rfl, r1, r2⟩ := relL2 r
        exact ⟨v', w', rfl, p ρ1 H1 _ x1 s1 (((er.ext x1).set i r1).set j r2) (by simp)⟩
      · rename_i e; cases e
      · exact p.elim
theorem evs_par3 {i j l : Nat} {x y z : Str} {a b c : Expr} {ms : M (List D)} {px py pz pt : Pos} {kt k2 : Nat} {pt2 : Pos} (hc : X.calm = true) (hN : X.N.Nodup) (hi : X.N[i]? = some x) (hj : X.N[j]? = some y) (hl : X.N[l]? = some z) (hij : i ≠ j) (hil : i ≠ l) (hjl : j ≠ l)
    (hx : X.env.scope.names.lookup x = some .local) (hy : X.env.scope.names.lookup y = some .local) (hz : X.env.scope.names.lookup z = some .local) (ha : PA X [a, b, c] (tL C W ms))
    (hw : swappedStores [.Tuple [.Name x px, .Name y py, .Name z pz] kt pt] (.Tuple [a, b, c] k2 pt2) X.env = pure (some [x, y, z]))
    (hs : swapsWithSole [.Tuple [.Name x px, .Name y py, .Name z pz] kt pt] (.Tuple [a, b, c] k2 pt2) pos.line X.env = pure false) :
    PS X (.Assign [.Tuple [.Name x px, .Name y py, .Name z pz] kt pt] (.Tuple [a, b, c] k2 pt2) pos) (tS C W (sPar3 i j l ms)) :=
  weakS (ps_par3 hc hN hi hj hl hij hil hjl hx hy hz ha hw hs) fun Z σ H ⟨ρ, env, hd, er, sh, p⟩ => by
    refine ⟨ρ, env, hd, er, sh, ?_⟩
    unfold sPar3 at p
    cases hm : ms env hd with
    | bad => rw [hm] at p; exact p.elim
    | exc x h => rw [hm] at p; exact fun ρ1 H1 dd y s r => p ρ1 H1 σ y s (er.ext y) rfl dd r
    | ok ds h =>
      rw [hm] at p
      split at p
      · rename_i v w u h1 e
        cases e
        intro ρ1 H1 vs x1 s1 r
        simp only [RelL] at r
        obtain ⟨v', r', rfl, r1, w', r'', rfl, r2, u', r3, rfl, r4, rfl⟩ := r
        exact ⟨v', w', u', rfl, p ρ1 H1 _ x1 s1 ((((er.ext x1).set i r1).set j r2).set l r4) (by simp)⟩
      · rename_i e; cases e
      · exact p.elim
end
/-- of a def that is stuck nothing is promised -/
theorem fn_bad {C : Ctx} {P : Program} {w : World} {K : PySem.W.Frag} {mg : Str → Option Value} {base : Heap} {CX : CXT} {k n : Nat} {f : Addr} {fd : FuncData} {ps : List Str} (hn : ps.length = n) : FnG P w K mg base CX k f fd ps (spM C n fun _ _ => .bad) :=
  ⟨fun vs H Q E h => h.1.trans hn.symm, fun A outer s H args us vs Q E _ _ _ _ ⟨_, ρ, hd, ds, _, _, p⟩ => p.elim⟩
end EV


/-! EvS: running the evaluator by simp. -/
namespace EV
open PySem PySem.Spec PyProof.Rows L2
section
variable {env : Env} {h : Hd} {a b c o : M D} {ms mk : M (List D)} {ta tb : M Bool} {m : Bool} {d : D} {i : Nat} {xs : List D}
@[simp] theorem mc_at : mc d env h = .ok d h := rfl
@[simp] theorem mvar_at (i : Nat) : mvar i env h = (match env[i]? with | some (some d) => .ok d h | _ => .bad) := rfl
@[simp] theorem mnil_at : mnil env h = .ok [] h := rfl
@[simp] theorem mcons_at : mcons a ms env h = (a env h).bind fun x h1 => (ms env h1).bind fun xs h2 => .ok (x :: xs) h2 := rfl
@[simp] theorem mop1_at (f : Op1) : mop1 m f a env h = (a env h).bind fun x h1 => fin m (f x h1) h1 := rfl
@[simp] theorem mop2_at (f : Op2) : mop2 m f a b env h = (a env h).bind fun x h1 => (b env h1).bind fun y h2 => fin m (f x y h2) h2 := rfl
@[simp] theorem mtup_at : mtup ms env h = (ms env h).bind fun xs h1 => if xs.length ≤ sizeLine then .ok (.tup xs) h1 else .bad := rfl
@[simp] theorem mlst_at : mlst m ms env h = (ms env h).bind fun xs h1 => fin m (if xs.length ≤ sizeLine then some (.new xs) else none) h1 := rfl
@[simp] theorem mfun_at (f : OpN) : mfun m f ms env h = (ms env h).bind fun xs h1 => fin m (f xs h1) h1 := rfl
@[simp] theorem mand_at : mand a b env h = (a env h).bind fun x h1 => match truth x h1 with | some true => b env h1 | some false => .ok x h1 | none => .bad := rfl
@[simp] theorem mor_at : mor a b env h = (a env h).bind fun x h1 => match truth x h1 with | some true => .ok x h1 | some false => b env h1 | none => .bad := rfl
@[simp] theorem mnot_at : mnot a env h = (a env h).bind fun x h1 => match truth x h1 with | some k => .ok (.bl !k) h1 | none => .bad := rfl
@[simp] theorem mandT_at : mandT ta tb env h = (ta env h).bind fun c h1 => if c then tb env h1 else .ok false h1 := rfl
@[simp] theorem morT_at : morT ta tb env h = (ta env h).bind fun c h1 => if c then .ok true h1 else tb env h1 := rfl
@[simp] theorem mnotT_at : mnotT ta env h = (ta env h).bind fun c h1 => .ok (!c) h1 := rfl
@[simp] theorem mtru_at : mtru a env h = (a env h).bind fun x h1 => match truth x h1 with | some k => .ok k h1 | none => .bad := rfl
@[simp] theorem mbl_at : mbl a env h = (a env h).bind fun x h1 => match x with | .bl k => .ok k h1 | _ => .bad := rfl
@[simp] theorem mite_at : mite ta a b env h = (ta env h).bind fun k h1 => if k then a env h1 else b env h1 := rfl
@[simp] theorem mchain_at (f g : Op2) : mchain f g a b c env h = (a env h).bind fun x h1 => (b env h1).bind fun y h2 => match f x y h2 with
  | some (.v (.bl true)) => (c env h2).bind fun z h3 => fin false (g y z h3) h3
  | some (.v (.bl false)) => .ok (.bl false) h2
  | _ => .bad := rfl
@[simp] theorem mcall_at (F : FunT) (n : Nat) (dd : List D) : mcall F n dd ms env h = (ms env h).bind fun xs h1 => if (xs ++ dd).length = n then F (xs ++ dd) h1 else .bad := rfl
@[simp] theorem mcallN_at (F : FunT) (n i j : Nat) (g : List D → List D → List D) : mcallN F n i j g ms mk env h = (ms env h).bind fun xs h1 => (mk env h1).bind fun zs h2 => if xs.length = i ∧ zs.length = j ∧ (g xs zs).length = n then F (g xs zs) h2 else .bad := rfl
@[simp] theorem mmeth_at (g : D → Hd → Bool) (f : OpM) : mmeth g f o ms env h = (o env h).bind fun x h1 => if g x h1 then (ms env h1).bind fun xs h2 => resM (f x xs h2) else .bad := rfl
@[simp] theorem msl_at (lo hi : M (Option Int)) : msl m a lo hi env h = (a env h).bind fun x h1 => (lo env h1).bind fun l h2 => (hi env h2).bind fun u h3 => fin m (oSl x l u h3) h3 := rfl
@[simp] theorem mpart0 : mpart none env h = .ok none h := rfl
@[simp] theorem mpart1 : mpart (some a) env h = (a env h).bind fun x h1 => match x with | .int i => .ok (some i) h1 | _ => .bad := rfl
@[simp] theorem mdic0_at : mdic0 env h = .ok (.dic [] []) h := rfl
@[simp] theorem iseq_at : iseq a env h = (a env h).bind fun x h1 => match itemsOf x with | some xs => .ok xs h1 | none => .bad := rfl
@[simp] theorem irng_at (f : List D → Option (List D)) : irng f ms env h = (ms env h).bind fun xs h1 => match f xs with | some ys => .ok ys h1 | _ => .bad := rfl
@[simp] theorem mcomp_at (own : List Nat) (it : MI) (g : MG) (cond : M Bool) (elt : M D) : mcomp m own it g cond elt env h = (it env h).bind fun items h1 =>
  match compLoop g cond elt (wipeE env own) items [] h1 with
  | some (acc, h2) => fin m (some (.new acc)) h2
  | none => .bad := rfl
@[simp] theorem fin_none : fin m none h = .bad := rfl
@[simp] theorem fin_v : fin m (some (.v d)) h = .ok d h := rfl
@[simp] theorem fin_newF : fin false (some (.new xs)) h = .ok (.lst xs) h := rfl
@[simp] theorem fin_newT : fin true (some (.new xs)) h = .ok (.ref h.length) (h ++ [.lst xs]) := rfl
@[simp] theorem resM_some (h' : Hd) : resM (some (d, h')) = .ok d h' := rfl
@[simp] theorem resM_none : resM none = .bad := rfl
@[simp] theorem isLst_ref (n : Nat) : isLst (.ref n) h = (lstOf (.ref n) h).isSome := rfl
@[simp] theorem lstOf_ref (n : Nat) : lstOf (.ref n) h = (match h[n]? with | some (.lst xs) => some xs | _ => none) := rfl
@[simp] theorem lstOf_lst : lstOf (.lst xs) h = some xs := rfl
@[simp] theorem seqOf_tup : seqOf (.tup xs) h = some xs := rfl
@[simp] theorem seqOf_lst : seqOf (.lst xs) h = some xs := rfl
@[simp] theorem seqOf_ref (n : Nat) : seqOf (.ref n) h = lstOf (.ref n) h := rfl
@[simp] theorem seqOf_scr (ns : List Int) : seqOf (.scr ns) h = some (ns.map .int) := rfl
@[simp] theorem truth_bl (k : Bool) : truth (.bl k) h = some k := rfl
@[simp] theorem ofE_at (k : D → MS) : ofE a k env h = (match a env h with | .ok d h1 => k d env h1 | .exc x h1 => some (.exc x, env, h1) | .bad => none) := rfl
@[simp] theorem ofT_at (k : Bool → MS) : ofT ta k env h = (match ta env h with | .ok d h1 => k d env h1 | .exc x h1 => some (.exc x, env, h1) | .bad => none) := rfl
@[simp] theorem sPass_at : sPass env h = some (.nx, env, h) := rfl
@[simp] theorem sExpr_at : sExpr a env h = (match a env h with | .ok _ h1 => some (.nx, env, h1) | .exc x h1 => some (.exc x, env, h1) | .bad => none) := rfl
@[simp] theorem sRet_at : sRet a env h = (match a env h with | .ok d h1 => some (.ret d, env, h1) | .exc x h1 => some (.exc x, env, h1) | .bad => none) := rfl
@[simp] theorem sRetN_at : sRetN env h = some (.ret .non, env, h) := rfl
@[simp] theorem sAsg_at (g : MG) : sAsg a g env h = (match a env h with
  | .ok d h1 => (match g d env h1 with | some (env', h') => some (.nx, env', h') | none => none)
  | .exc x h1 => some (.exc x, env, h1)
  | .bad => none) := rfl
@[simp] theorem sIf_at (s t : MS) : sIf ta s t env h = (match ta env h with | .ok k h1 => if k then s env h1 else t env h1 | .exc x h1 => some (.exc x, env, h1) | .bad => none) := rfl
@[simp] theorem sSeq_at (s t : MS) : sSeq s t env h = (match s env h with | some (.nx, env', h') => t env' h' | r => r) := rfl
@[simp] theorem sFor_at (it : MI) (g : MG) (body : MS) : sFor it g body env h = (match it env h with | .ok items h1 => forLoop g body items env h1 | .exc x h1 => some (.exc x, env, h1) | .bad => none) := rfl
@[simp] theorem forLoop_nil (g : MG) (body : MS) : forLoop g body [] env h = some (.nx, env, h) := rfl
@[simp] theorem forLoop_cons (g : MG) (body : MS) : forLoop g body (d :: xs) env h = (match g d env h with
    | none => none
    | some (env1, h1) => match body env1 h1 with
      | some (.nx, e2, h2) => forLoop g body xs e2 h2
      | some (.ct, e2, h2) => forLoop g body xs e2 h2
      | some (.bk, e2, h2) => some (.nx, e2, h2)
      | r => r) := rfl
@[simp] theorem gname_at (i : Nat) : gname i d env h = some (env.set i (some d), h) := rfl
@[simp] theorem gtup_at (gs : List MG) : gtup gs (.tup xs) env h = if xs.length = gs.length then gtup.go gs xs env h else none := rfl
@[simp] theorem gtup_lst (gs : List MG) : gtup gs (.lst xs) env h = if xs.length = gs.length then gtup.go gs xs env h else none := rfl
@[simp] theorem go_nil (ds : List D) : gtup.go [] ds env h = some (env, h) := by unfold gtup.go; rfl
@[simp] theorem go_cons (g : MG) (gs : List MG) (ds : List D) : gtup.go (g :: gs) (d :: ds) env h = (match g d env h with | some (env', h') => gtup.go gs ds env' h' | none => none) := by
  rw [gtup.go]
  try (cases g d env h <;> rfl)
@[simp] theorem gstar_at (gs : List MG) : gstar gs (.tup xs) env h = if gs.length ≤ xs.length + 1 ∧ 0 < gs.length then gtup.go gs (xs.take (gs.length - 1) ++ [.lst (xs.drop (gs.length - 1))]) env h else none := rfl
@[simp] theorem gsub_at (mo mi : M D) : gsub mo mi d env h = (match mo env h with
  | .ok (.ref n) h1 => match mi env h1 with
    | .ok (.int k) h2 => match h2[n]? with
      | some (.lst xs) => if 0 ≤ k ∧ k < xs.length then some (env, h2.set n (.lst (xs.set k.toNat d))) else none
      | _ => none
    | _ => none
  | _ => none) := rfl
@[simp] theorem runB_at (n : Nat) (s : MS) (ds : List D) : runB n s ds h = (match s (startE n ds) h with
  | some (.nx, _, h) => .ok .non h
  | some (.ret d, _, h) => .ok d h
  | some (.exc x, _, h) => .exc x h
  | _ => .bad) := rfl
@[simp] theorem startE_at (n : Nat) (ds : List D) : startE n ds = ds.map some ++ List.replicate (n - ds.length) none := rfl
@[simp] theorem wipeE_nil : wipeE env [] = env := rfl
@[simp] theorem wipeE_cons (v : Nat) (vs : List Nat) : wipeE env (v :: vs) = (wipeE env vs).set v none := rfl
@[simp] theorem isi_at (t : Ty) : fIsi [d, .ty t] h = (tyOf d h).map fun n => .v (.bl (isSub n t)) := rfl
@[simp] theorem len_at : fLen [d] h = (lenOf d h).map fun n => .v (.int (n : Nat)) := by
  show Option.map (fun n => OV.v (D.int n)) (do let a ← lenOf d h; pure (a : Int)) = _
  cases lenOf d h <;> rfl
@[simp] theorem all_lst : fAll [.lst xs] h = (blsOf xs).map fun bs => .v (.bl (bs.all id)) := rfl
@[simp] theorem tuple_at : fTuple [d] h = (seqOf d h).map fun xs => .v (.tup xs) := rfl
@[simp] theorem list_at : fList [d] h = (seqOf d h).map .new := rfl
@[simp] theorem isN_eq (x y : D) : oEq x y h = (eqv x y h).map fun b => .v (.bl b) := rfl
@[simp] theorem isN_ne (x y : D) : oNe x y h = (eqv x y h).map fun b => .v (.bl !b) := rfl
@[simp] theorem isN_in (x y : D) : oIn x y h = (isIn x y h).map fun b => .v (.bl b) := rfl
@[simp] theorem isN_notIn (x y : D) : oNotIn x y h = (isIn x y h).map fun b => .v (.bl !b) := rfl
@[simp] theorem cmp_int (p : Int → Int → Bool) (i j : Int) : oCmp p (.int i) (.int j) h = some (.v (.bl (p i j))) := rfl
@[simp] theorem add_int (i j : Int) : oAdd (.int i) (.int j) h = some (.v (.int (i + j))) := rfl
@[simp] theorem sub_int (i j : Int) : oSub (.int i) (.int j) h = some (.v (.int (i - j))) := rfl
@[simp] theorem mod_int (i j : Int) : oMod (.int i) (.int j) h = if 0 < j then some (.v (.int (i % j))) else none := rfl
@[simp] theorem fdiv_int (i j : Int) : oFdiv (.int i) (.int j) h = if 0 < j ∧ j < 1073741824 then some (.v (.int (i / j))) else none := rfl
@[simp] theorem mul_int (i j : Int) : oMul (.int i) (.int j) h = if (-(2 ^ 64) < i ∧ i < 2 ^ 64) ∨ (-(2 ^ 64) < j ∧ j < 2 ^ 64) then some (.v (.int (i * j))) else none := rfl
theorem mul_tup (a : List D) (k : Int) : oMul (.tup a) (.int k) h = if a ≠ [] ∧ 2 ≤ k ∧ k ≤ 1000 ∧ a.length ≤ 1000 then some (.v (.tup (List.replicate k.toNat a).flatten)) else if (a = [] ∨ k = 1) ∧ -1000 ≤ k ∧ k ≤ 1000 then some (.v (.tup a)) else none := rfl
@[simp] theorem mul_lst (a : List D) (k : Int) : oMul (.lst a) (.int k) h = if -(2 ^ 63) ≤ k ∧ k < 2 ^ 63 ∧ a.length * k.toNat ≤ sizeLine then some (.new (List.replicate k.toNat a).flatten) else none := rfl
@[simp] theorem add_lst (a b : List D) : oAdd (.lst a) (.lst b) h = if a.length + b.length ≤ sizeLine then some (.new (a ++ b)) else none := rfl
@[simp] theorem add_refL (n : Nat) (b : List D) : oAdd (.ref n) (.lst b) h = (match lstOf (.ref n) h with
  | some a => if a.length + b.length ≤ sizeLine then some (.new (a ++ b)) else none
  | none => none) := by
  show (match lstOf (.ref n) h, lstOf (.lst b) h with
    | some a, some b => if a.length + b.length ≤ sizeLine then some (OV.new (a ++ b)) else none
    | _, _ => none) = _
  cases lstOf (.ref n) h <;> rfl
@[simp] theorem app_at (n : Nat) (y : D) : fAppend (.ref n) [y] h = (match h[n]? with
  | some (.lst xs) => if xs.length < sizeLine then some (.non, h.set n (.lst (xs ++ [y]))) else none
  | _ => none) := rfl
@[simp] theorem join_at (a : Str) : fJoin (.str a) [d] h = (match seqOf d h with
  | some ys => match strsOf ys with
    | some zs => if (zs.map (·.length)).sum + zs.length * a.length ≤ 16777216 then some (.str (Str.join a zs), h) else none
    | none => none
  | none => none) := rfl
@[simp] theorem isStr_str (z : Str) : isStr (.str z) h = true := rfl
@[simp] theorem add_tup (a b : List D) : oAdd (.tup a) (.tup b) h = if a.length + b.length ≤ sizeLine then some (.v (.tup (a ++ b))) else none := rfl
@[simp] theorem add_str (a b : Str) : oAdd (.str a) (.str b) h = if a.length + b.length ≤ sizeLine then some (.v (.str (a ++ b))) else none := rfl
@[simp] theorem int_bl (b : Bool) : fInt [.bl b] h = some (.v (.int (if b then 1 else 0))) := rfl
@[simp] theorem int_int (i : Int) : fInt [.int i] h = some (.v (.int i)) := rfl
@[simp] theorem sl_tup (lo hi : Option Int) : oSl (.tup xs) lo hi h = some (.v (.tup (cutD xs lo hi))) := rfl
@[simp] theorem sl_lst (lo hi : Option Int) : oSl (.lst xs) lo hi h = some (.new (cutD xs lo hi)) := rfl
@[simp] theorem sl_str (s : Str) (lo hi : Option Int) : oSl (.str s) lo hi h = some (.v (.str (cutS s lo hi))) := rfl
@[simp] theorem pow_int (i j : Int) : oPow (.int i) (.int j) h = if 0 ≤ j ∧ j ≤ 1000000 ∧ i.natAbs < 2 ^ 64 then some (.v (.int (i ^ j.toNat))) else none := rfl
@[simp] theorem neg_int (i : Int) : oNeg (.int i) h = some (.v (.int (-i))) := rfl
@[simp] theorem ix_tup (i : Int) : oIx (.tup xs) (.int i) h = (atI xs i).map .v := rfl
@[simp] theorem ix_lst (i : Int) : oIx (.lst xs) (.int i) h = (atI xs i).map .v := rfl
@[simp] theorem ix_ref (n : Nat) (i : Int) : oIx (.ref n) (.int i) h = (match lstOf (.ref n) h with | some xs => (atI xs i).map .v | none => none) := rfl
@[simp] theorem ix_scr (ns : List Int) (i : Int) : oIx (.scr ns) (.int i) h = (atI (ns.map D.int) i).map .v := rfl
end
/-- a comprehension whose element leaves the heap alone -/
theorem comp_map {i : Nat} {elt : M D} {env : Env} {h : Hd} {f : D → D} : ∀ {xs acc : List D}, (∀ x ∈ xs, elt (env.set i (some x)) h = .ok (f x) h) → compLoop (gname i) yes elt env xs acc h = some (acc ++ xs.map f, h)
  | [], acc, _ => by simp [compLoop]
  | x :: xs, acc, hx => by
    unfold compLoop
    simp only [gname_at, yes]
    rw [hx x List.mem_cons_self]
    simp only
    rw [comp_map fun y hy => hx y (List.mem_cons_of_mem _ hy)]
    simp
theorem bls_map {α : Type} {f : α → Bool} : ∀ {xs : List α}, blsOf (xs.map fun x => .bl (f x)) = some (xs.map f)
  | [] => rfl
  | x :: xs => by
    show (blsOf (xs.map fun x => .bl (f x))).map (f x :: ·) = _
    rw [bls_map]; rfl
theorem len_le {n : Nat} (h : n ≤ 1000) : n ≤ sizeLine := by rw [sizeLine_eq]; omega
end EV


/-! EvU: what the draws' contracts lean on. -/
namespace EV
open PySem PySem.Spec PyProof.Rows L2
theorem at0 {α : Type} {x : α} {xs : List α} : atI (x :: xs) 0 = some x := by
  unfold atI ixN
  simp
theorem at1 {α : Type} {x y : α} {xs : List α} : atI (x :: y :: xs) 1 = some y := by
  unfold atI ixN
  rw [if_pos (by decide), if_pos (by simp only [List.length_cons]; omega)]
  rfl
theorem at_in {α : Type} {xs : List α} {i : Int} (h0 : 0 ≤ i) (h1 : i < xs.length) : ∃ y, atI xs i = some y ∧ y ∈ xs := by
  unfold atI ixN
  rw [if_pos h0, if_pos h1]
  have hj : i.toNat < xs.length := by omega
  exact ⟨xs[i.toNat], by simp [hj], List.getElem_mem hj⟩
/-- the draws' state stands at n -/
def RngAt (h : Hd) (n : Nat) : Prop := ∃ a b : Int, h[n]? = some (.lst [.int a, .int b]) ∧ 0 ≤ a
/-- draws: nothing else changes -/
structure Stp (n : Nat) (h h' : Hd) : Prop where
  rng : RngAt h' n
  len : h.length ≤ h'.length
  same : ∀ j : Nat, j < h.length → j ≠ n → h'[j]? = h[j]?
theorem Stp.refl {n : Nat} {h : Hd} (r : RngAt h n) : Stp n h h := ⟨r, Nat.le_refl _, fun _ _ _ => rfl⟩
theorem Stp.trans {n : Nat} {h h' h'' : Hd} (x : Stp n h h') (y : Stp n h' h'') : Stp n h h'' :=
  ⟨y.rng, Nat.le_trans x.len y.len, fun j hj hn => (y.same j (Nat.lt_of_lt_of_le hj x.len) hn).trans (x.same j hj hn)⟩
theorem RngAt.lt {h : Hd} {n : Nat} (r : RngAt h n) : n < h.length := by
  obtain ⟨a, b, e, _⟩ := r
  exact (List.getElem?_eq_some_iff.mp e).1
theorem Stp.set {n : Nat} {h : Hd} (hn : n < h.length) {a b : Int} (ha : 0 ≤ a) : Stp n h (h.set n (.lst [.int a, .int b])) :=
  ⟨⟨a, b, List.getElem?_set_self hn, ha⟩, by simp, fun j _ hj => List.getElem?_set_ne (Ne.symm hj)⟩
theorem Stp.push {n : Nat} {h : Hd} (r : RngAt h n) (o : MO) : Stp n h (h ++ [o]) := by
  obtain ⟨a, b, e, ha⟩ := r
  have hn := (List.getElem?_eq_some_iff.mp e).1
  exact ⟨⟨a, b, by rw [List.getElem?_append_left hn]; exact e, ha⟩, by simp, fun j hj _ => List.getElem?_append_left hj⟩
/-- a comprehension whose elements draw: J holds in between, P of each -/
theorem comp_st {i : Nat} {elt : M D} {env : Env} {J : Hd → Prop} {P : D → Prop} : ∀ {xs acc : List D} {h : Hd}, (∀ x ∈ xs, ∀ h, J h → ∃ y h', elt (env.set i (some x)) h = .ok y h' ∧ J h' ∧ P y) → J h →
    ∃ ys h', compLoop (gname i) yes elt env xs acc h = some (acc ++ ys, h') ∧ J h' ∧ (∀ y ∈ ys, P y) ∧ ys.length = xs.length
  | [], acc, h, _, hj => ⟨[], h, by simp [compLoop], hj, (fun _ z => nomatch z), rfl⟩
  | x :: xs, acc, h, he, hj => by
    obtain ⟨y, h1, e1, j1, p1⟩ := he x List.mem_cons_self h hj
    obtain ⟨ys, h2, e2, j2, p2, l2⟩ := comp_st (xs := xs) (acc := acc ++ [y]) (fun z hz => he z (List.mem_cons_of_mem _ hz)) j1
    refine ⟨y :: ys, h2, ?_, j2, fun z hz => ?_, by simp [l2]⟩
    · unfold compLoop
      simp only [gname_at, yes]
      rw [e1]
      simp only
      rw [e2]
      simp
    · rcases List.mem_cons.mp hz with rfl | hz
      · exact p1
      · exact p2 z hz
/-- .. J by the turn -/
theorem comp_stI {i : Nat} {elt : M D} {env : Env} {J : Nat → Hd → Prop} {P : D → Prop} : ∀ {xs acc : List D} {h : Hd}, (∀ k, k < xs.length → ∀ x h, J k h → ∃ y h', elt (env.set i (some x)) h = .ok y h' ∧ J (k + 1) h' ∧ P y) → J 0 h →
    ∃ ys h', compLoop (gname i) yes elt env xs acc h = some (acc ++ ys, h') ∧ J xs.length h' ∧ (∀ y ∈ ys, P y) ∧ ys.length = xs.length := by
  intro xs
  induction xs generalizing J with
  | nil => exact fun {acc h} _ hj => ⟨[], h, by simp [compLoop], hj, (fun _ z => nomatch z), rfl⟩
  | cons x xs ih =>
    intro acc h he hj
    obtain ⟨y, h1, e1, j1, p1⟩ := he 0 (Nat.succ_pos _) x h hj
    obtain ⟨ys, h2, e2, j2, p2, l2⟩ := ih (J := fun k => J (k + 1)) (acc := acc ++ [y]) (fun k hk => he (k + 1) (Nat.succ_lt_succ hk)) j1
    refine ⟨y :: ys, h2, ?_, j2, fun z hz => ?_, by simp [l2]⟩
    · unfold compLoop
      simp only [gname_at, yes]
      rw [e1]
      simp only
      rw [e2]
      simp
    · rcases List.mem_cons.mp hz with rfl | hz
      · exact p1
      · exact p2 z hz
theorem range_ok {n : Nat} (h : n < 1000000) : irange1 [.int (n : Int)] = some ((List.range n).map fun k : Nat => D.int (k : Int)) := by
  show (if _ then _ else _) = _
  rw [if_pos (by omega), Int.toNat_natCast]
theorem comp_mapm {α : Type} {i : Nat} {elt : M D} {env : Env} {h : Hd} {g f : α → D} : ∀ {l : List α} {acc : List D}, (∀ x ∈ l, elt (env.set i (some (g x))) h = .ok (f x) h) → compLoop (gname i) yes elt env (l.map g) acc h = some (acc ++ l.map f, h)
  | [], acc, _ => by simp [compLoop]
  | x :: xs, acc, hx => by
    rw [List.map_cons]
    unfold compLoop
    simp only [gname_at, yes]
    rw [hx x List.mem_cons_self]
    simp only
    rw [comp_mapm fun y hy => hx y (List.mem_cons_of_mem _ hy)]
    simp
/-- data that nobody changes -/
def Fz (v : D) : Prop := ∃ p, toPy v = some p
theorem Fz.ty {v : D} (z : Fz v) : ∃ t, ∀ h, tyOf v h = some t := by
  obtain ⟨p, e⟩ := z
  cases v <;> first | exact ⟨_, fun _ => rfl⟩ | (simp only [toPy] at e; cases e)
theorem fz_all : ∀ {xs : List D} {ps : List PyData}, toPyL xs = some ps → ∀ x ∈ xs, Fz x
  | [], _, _, x, hx => nomatch hx
  | d :: ds, ps, e, x, hx => by
    simp only [toPyL] at e
    split at e
    · cases e
    · rename_i p e1
      split at e
      · cases e
      · rename_i qs e2
        rcases List.mem_cons.mp hx with rfl | hx
        · exact ⟨p, e1⟩
        · exact fz_all e2 x hx
theorem Fz.tup {xs : List D} (z : Fz (.tup xs)) : ∀ x ∈ xs, Fz x := by
  obtain ⟨p, e⟩ := z
  simp only [toPy, Option.map_eq_some_iff] at e
  obtain ⟨ps, e1, _⟩ := e
  exact fz_all e1
/-- data that repr shows in at most k signs, at most d deep -/
def Sh (k d : Nat) (v : D) : Prop := ∃ p, toPy v = some p ∧ p.showable = true ∧ p.shown.length ≤ k ∧ p.depth ≤ d
theorem Sh.fz {k d : Nat} {v : D} (s : Sh k d v) : Fz v := let ⟨p, e, _⟩ := s; ⟨p, e⟩
theorem Sh.mono {k d k' d' : Nat} {v : D} (s : Sh k d v) (hk : k ≤ k') (hd : d ≤ d') : Sh k' d' v := let ⟨p, e, a, b, c⟩ := s; ⟨p, e, a, Nat.le_trans b hk, Nat.le_trans c hd⟩
theorem Sh.bl (b : Bool) : Sh 5 0 (.bl b) := ⟨.bool b, rfl, rfl, by cases b <;> decide +kernel, Nat.le_refl _⟩
theorem Sh.non : Sh 5 0 .non := ⟨.none, rfl, rfl, by decide +kernel, Nat.le_refl _⟩
theorem Sh.str {z : Str} {k : Nat} (hz : z.length ≤ k) (hs : ∀ c ∈ z.cps.toList, c < 16 ^ 8) : Sh (10 * k + 2) 0 (.str z) :=
  ⟨.str z, rfl, rfl, by
    simp only [PyData.shown]
    have := StrLaws.reprText_len z hs
    omega, by simp only [PyData.depth]; exact Nat.le_refl _⟩
theorem sh_all {k d : Nat} : ∀ {xs : List D}, (∀ x ∈ xs, Sh k d x) → ∃ ps, toPyL xs = some ps ∧ PyData.showableAll ps = true ∧ ((PyData.shownAll ps).map (·.length)).sum ≤ xs.length * k ∧ PyData.depthAll ps ≤ d ∧ (PyData.shownAll ps).length = xs.length
  | [], _ => ⟨[], rfl, rfl, Nat.zero_le _, by simp only [PyData.depthAll]; exact Nat.zero_le _, rfl⟩
  | x :: xs, h => by
    obtain ⟨p, e, a, b, c⟩ := h x List.mem_cons_self
    obtain ⟨ps, e2, a2, b2, c2, l2⟩ := sh_all (fun y hy => h y (List.mem_cons_of_mem _ hy))
    refine ⟨p :: ps, by simp only [toPyL, e, e2], by simp only [PyData.showableAll, a, a2]; rfl, ?_, ?_, by simp only [PyData.shownAll, List.length_cons, l2]⟩
    · simp only [PyData.shownAll, List.map_cons, List.sum_cons, List.length_cons, Nat.add_mul]
      omega
    · simp only [PyData.depthAll]
      exact Nat.max_le.mpr ⟨c, c2⟩
theorem Sh.lst {k d n : Nat} {xs : List D} (h : ∀ x ∈ xs, Sh k d x) (hn : xs.length ≤ n) : Sh (n * (k + 2) + 3) (d + 1) (.lst xs) := by
  obtain ⟨ps, e, a, b, c, l⟩ := sh_all h
  refine ⟨.list ps, by simp only [toPy, e, Option.map_some], by simp only [PyData.showable, a], ?_, by simp only [PyData.depth]; omega⟩
  simp only [PyData.shown]
  have h1 := listText_len_le (PyData.shownAll ps)
  have h2 := Nat.mul_le_mul_right (k + 2) hn
  rw [l] at h1
  rw [Nat.mul_add] at h2
  omega
theorem Sh.tup {k d n : Nat} {xs : List D} (h : ∀ x ∈ xs, Sh k d x) (hn : xs.length ≤ n) : Sh (n * (k + 2) + 3) (d + 1) (.tup xs) := by
  obtain ⟨ps, e, a, b, c, l⟩ := sh_all h
  refine ⟨.tuple ps, by simp only [toPy, e, Option.map_some], by simp only [PyData.showable, a], ?_, by simp only [PyData.depth]; omega⟩
  simp only [PyData.shown]
  have h1 := tupleText_len_le (PyData.shownAll ps)
  have h2 := Nat.mul_le_mul_right (k + 2) hn
  rw [l] at h1
  rw [Nat.mul_add] at h2
  omega
theorem repr_lst {k d : Nat} {xs : List D} (s : Sh k d (.lst xs)) (hk : k ≤ 16777216) (hd : d ≤ 60) : ∃ z, ∀ h, fRepr [.lst xs] h = some (.v (.str z)) := by
  obtain ⟨p, e, a, b, c⟩ := s
  refine ⟨p.shown, fun h => ?_⟩
  have e' : toPyT h (.lst xs) = some p := e
  simp only [fRepr, e']
  rw [if_pos ⟨a, by rw [sizeLine_eq]; omega, by omega⟩]
theorem rng2 : irange1 [.int 2] = some [.int 0, .int 1] := by
  exact range_ok (n := 2) (by decide)
/-- a short text of plain signs -/
structure Sm (k : Nat) (z : Str) : Prop where
  len : z.length ≤ k
  sig : ∀ c ∈ z.cps.toList, c < 16 ^ 8
theorem Sm.sh {k : Nat} {z : Str} (s : Sm k z) : Sh (10 * k + 2) 0 (.str z) := Sh.str s.len s.sig
theorem Sm.mono {j k : Nat} {z : Str} (s : Sm j z) (h : j ≤ k) : Sm k z := ⟨Nat.le_trans s.len h, s.sig⟩
theorem Sm.add {j k : Nat} {y z : Str} (s : Sm j y) (t : Sm k z) : Sm (j + k) (y ++ z) :=
  ⟨by rw [len_app]; have := s.len; have := t.len; omega, fun c hc => by
    have e : (y ++ z).cps.toList = y.cps.toList ++ z.cps.toList := Array.toList_append
    rw [e] at hc
    rcases List.mem_append.mp hc with h | h
    · exact s.sig c h
    · exact t.sig c h⟩
theorem Sm.cut {k : Nat} {z : Str} (s : Sm k z) (lo hi : Option Int) : Sm k (cutS z lo hi) :=
  ⟨Nat.le_trans (cutS_length _ _ _) s.len, fun c hc => s.sig c (List.mem_of_mem_drop (List.mem_of_mem_take (by simpa [cutS] using hc)))⟩
theorem Sm.join0 : ∀ {zs : List Str}, (∀ z ∈ zs, Sm 1 z) → Sm zs.length (Str.join "" zs)
  | [], _ => ⟨Nat.le_refl _, fun c hc => by cases hc⟩
  | [x], h => h x List.mem_cons_self
  | x :: y :: r, h => by
    have h1 : Sm (1 + 0 + (y :: r).length) ((x ++ "") ++ Str.join "" (y :: r)) := Sm.add (Sm.add (h x List.mem_cons_self) ⟨Nat.le_refl _, fun c hc => by cases hc⟩) (Sm.join0 fun z hz => h z (List.mem_cons_of_mem _ hz))
    exact h1.mono (by simp only [List.length_cons]; omega)
theorem strs1_of : ∀ {ys : List D}, (∀ y ∈ ys, ∃ z, y = .str z ∧ Sm 1 z) → ∃ zs, strsOf ys = some zs ∧ (∀ z ∈ zs, Sm 1 z) ∧ zs.length = ys.length ∧ (zs.map (·.length)).sum ≤ ys.length
  | [], _ => ⟨[], rfl, (fun _ z => nomatch z), rfl, Nat.le_refl _⟩
  | y :: ys, h => by
    obtain ⟨z, rfl, hz⟩ := h y List.mem_cons_self
    obtain ⟨zs, e, a, l, s⟩ := strs1_of fun y hy => h y (List.mem_cons_of_mem _ hy)
    refine ⟨z :: zs, by simp only [strsOf, e, Option.map_some], fun x hx => ?_, by simp only [List.length_cons, l], ?_⟩
    · rcases List.mem_cons.mp hx with rfl | hx
      · exact hz
      · exact a x hx
    · have := hz.len
      simp only [List.map_cons, List.sum_cons, List.length_cons]
      omega
def smB (k : Nat) (z : Str) : Bool := decide (z.length ≤ k) && z.cps.toList.all fun c => decide (c < 16 ^ 8)
theorem sm_of {k : Nat} {z : Str} (h : smB k z = true) : Sm k z := by
  unfold smB at h
  rw [Bool.and_eq_true, List.all_eq_true] at h
  exact ⟨of_decide_eq_true h.1, fun c hc => of_decide_eq_true (h.2 c hc)⟩
def shB (k d : Nat) (v : D) : Bool := match toPy v with
  | some p => p.showable && (decide (p.shown.length ≤ k) && decide (p.depth ≤ d))
  | none => false
theorem sh_of {k d : Nat} {v : D} (h : shB k d v = true) : Sh k d v := by
  unfold shB at h
  split at h
  · rename_i p e
    rw [Bool.and_eq_true, Bool.and_eq_true] at h
    exact ⟨p, e, h.1, of_decide_eq_true h.2.1, of_decide_eq_true h.2.2⟩
  · cases h
theorem sh_in {k d : Nat} {xs : List D} (h : xs.all (shB k d) = true) {v : D} (hv : v ∈ xs) : Sh k d v := sh_of (List.all_eq_true.mp h v hv)
theorem pow_lt (b : Int) : (b % 2147483629).natAbs < 2 ^ 64 ∧ -(2 ^ 64) < b % 2147483629 ∧ b % 2147483629 < 2 ^ 64 := by omega
end EV


/-! EvW: zip(a, b) as what list() and dict() are made of. -/
namespace EV
open PySem PySem.Spec PyProof.Rows L2

section
variable {prog : Program} {w : World} {A : Around} {E : Value → Shared → Prop} {s : Shared} {z TI TO T i1 i2 : Addr} {fp1 fp2 : List Addr} {n1 n2 i : Nat} {P1 P2 : Nat → Value → Prop} {St1 St2 : Nat → Heap → Prop} {f : Bool} {oT : Obj}
/-- the next pair, while the last one is still held -/
theorem zh_item {Q : Option Value → Shared → Prop} (S : ZipSep2 z TI TO i1 i2 fp1 fp2) (D1 : Draws prog w A.in1 i1 fp1 n1 P1 St1) (D2 : Draws prog w A.in1 i2 fp2 n2 P2 St2)
    (hz : IsZipHeld s.heap z TI TO T f) (hT : s.heap.get? T = some oT) (hTI : IsTupOf2 s.heap TI (.ref i1) (.ref i2)) (t1 : St1 i s.heap) (t2 : St2 i s.heap) (l1 : i < n1) (l2 : i < n2)
    (hQ : ∀ x1 x2 h' tk, P1 i x1 → P2 i x2 → IsZipHeld h' z TI TO T true → St1 (i + 1) h' → St2 (i + 1) h' → IsTupOf2 h' s.heap.objs.size x1 x2 →
      (∀ c o, c ≠ z → c ≠ i1 → c ≠ i2 → s.heap.get? c = some o → h'.get? c = some o) → Q (some (.ref s.heap.objs.size)) { s with heap := h', toks := tk }) :
    wpAny (model prog w) A (pyNext (.ref z)) Q E s := by
  have ty : s.TypeIs (.ref z) "zip" := ⟨_, hz, rfl⟩
  unfold pyNext
  refine wpAny_bind (wpAny_attempt (wpAny_callSpecial?_slot (name := Str.ofString "__next__") ty F.slot_zip_next (wpAny_call_entry F.slot_zip_next ty F.entry_zip_next ?_ (F.args_zip_next_1 _))))
  obtain ⟨hp, g, d, tk0, os⟩ := s
  show wpAny _ _ (field (.ref z) 2 >>= _) _ _ _; refine wpAny_bind (wpAny_field hz rfl (x := .bool false) rfl ?_)
  show wpAny _ _ (field (.ref z) 3 >>= _) _ _ _; refine wpAny_bind (wpAny_field hz rfl (x := .ref TI) rfl ?_)
  refine wpAny_bind (wpAny_seqItems hTI rfl ?_); show wpAny _ _ (Builtin.SmallTypes.ownedTupleIsFree (.ref z) >>= _) _ _ _
  refine wpAny_bind (wpAny_tupleHeld_zip hz hT fun g1 hz1 hs1 => ?_)
  replace hs1 : Heap.SameBut z hp g1 := hs1
  simp only [Bool.false_eq_true, if_false]; refine wpAny_bind ?_
  rw [← Array.forIn_toList]; simp only [List.forIn_cons, List.forIn_nil]
  refine wpAny_bind (wpAny_bind (wpAny_holding ?_)); show wpAny _ _ (Builtin.SmallTypes.nextOf (.ref i1) >>= _) _ _ ⟨g1, g, d, tk0, os⟩
  refine wpAny_bind (D1.item i _ _ _ l1 (D1.over t1 hs1 S.zf1) fun x1 g2 tk1 hx1 sn1 hs2 => wpAny_pure (wpAny_pure ?_))
  replace hs2 : Heap.SameBut i1 g1 g2 := hs2
  refine wpAny_bind (wpAny_bind (wpAny_holding ?_)); show wpAny _ _ (Builtin.SmallTypes.nextOf (.ref i2) >>= _) _ _ ⟨g2, g, d, tk1, os⟩
  refine wpAny_bind (D2.item i _ _ _ l2 (D2.over (D2.over t2 hs1 S.zf2) hs2 S.sep1_2) fun x2 g3 tk2 hx2 sn2 hs3 => wpAny_pure (wpAny_pure (wpAny_pure ?_)))
  replace hs3 : Heap.SameBut i2 g2 g3 := hs3
  show wpAny _ _ (newTuple [x1, x2] >>= _) _ _ ⟨g3, g, d, tk2, os⟩; refine wpAny_bind (wpAny_newTuple ?_)
  have sz : g3.objs.size = hp.objs.size := by rw [hs3.1, hs2.1, hs1.1]
  have hz3 : IsZipHeld g3 z TI TO T true := hs3.extBut _ _ S.zi2 (hs2.extBut _ _ S.zi1 hz1)
  have kp : ∀ c o, c ≠ z → c ≠ i1 → c ≠ i2 → hp.get? c = some o → g3.get? c = some o := fun c o c1 c2 c3 e => hs3.extBut _ _ c3 (hs2.extBut _ _ c2 (hs1.extBut _ _ c1 e))
  have j1 : St1 (i + 1) g3 := D1.over sn1 hs3 S.sep2_1
  have up : ∀ {b : Addr} {o : Obj}, g3.get? b = some o → (g3.push { cls := .type "tuple", data := .seq #[x1, x2] }).get? b = some o := fun e => Heap.get?_push_of_some _ e
  have hp' : IsTupOf2 (g3.push { cls := .type "tuple", data := .seq #[x1, x2] }) g3.objs.size x1 x2 := Heap.get?_push_size _ rfl
  rw [sz] at hp'
  refine wpAny_pure ⟨_, rfl, wpAny_pure ?_⟩
  show Q (some (.ref g3.objs.size)) _
  rw [sz]
  exact hQ x1 x2 _ tk2 hx1 hx2 (up hz3) (D1.frame _ _ _ j1 fun b _ o e => up e) (D2.frame _ _ _ sn2 fun b _ o e => up e) hp' fun c o c1 c2 c3 e => up (kp c o c1 c2 c3 e)
theorem zh_end {Q : Option Value → Shared → Prop} (S : ZipSep2 z TI TO i1 i2 fp1 fp2) (D1 : Draws prog w A.in1 i1 fp1 n1 P1 St1) (D2 : Draws prog w A.in1 i2 fp2 n2 P2 St2)
    (hz : IsZipHeld s.heap z TI TO T f) (hT : s.heap.get? T = some oT) (hTI : IsTupOf2 s.heap TI (.ref i1) (.ref i2)) (t1 : St1 i s.heap) (t2 : St2 i s.heap) (l1 : i ≤ n1) (l2 : i ≤ n2) (he : i = n1 ∨ i = n2)
    (hQ : ∀ h' tk, (∀ c o, c ≠ z → c ≠ i1 → c ≠ i2 → s.heap.get? c = some o → h'.get? c = some o) → Q none { s with heap := h', toks := tk }) :
    wpAny (model prog w) A (pyNext (.ref z)) Q E s := by
  have ty : s.TypeIs (.ref z) "zip" := ⟨_, hz, rfl⟩
  unfold pyNext
  refine wpAny_bind (wpAny_attempt (wpAny_callSpecial?_slot (name := Str.ofString "__next__") ty F.slot_zip_next (wpAny_call_entry F.slot_zip_next ty F.entry_zip_next ?_ (F.args_zip_next_1 _))))
  obtain ⟨hp, g, d, tk0, os⟩ := s
  show wpAny _ _ (field (.ref z) 2 >>= _) _ _ _; refine wpAny_bind (wpAny_field hz rfl (x := .bool false) rfl ?_)
  show wpAny _ _ (field (.ref z) 3 >>= _) _ _ _; refine wpAny_bind (wpAny_field hz rfl (x := .ref TI) rfl ?_)
  refine wpAny_bind (wpAny_seqItems hTI rfl ?_); show wpAny _ _ (Builtin.SmallTypes.ownedTupleIsFree (.ref z) >>= _) _ _ _
  refine wpAny_bind (wpAny_tupleHeld_zip hz hT fun g1 hz1 hs1 => ?_)
  replace hs1 : Heap.SameBut z hp g1 := hs1
  simp only [Bool.false_eq_true, if_false]; refine wpAny_bind ?_
  rw [← Array.forIn_toList]; simp only [List.forIn_cons, List.forIn_nil]
  refine wpAny_bind (wpAny_bind (wpAny_holding ?_)); show wpAny _ _ (Builtin.SmallTypes.nextOf (.ref i1) >>= _) _ _ ⟨g1, g, d, tk0, os⟩
  have fin_ : ∀ (h' : Heap) (tk : Nat) (e : Addr), (∀ c o, c ≠ z → c ≠ i1 → c ≠ i2 → hp.get? c = some o → h'.get? c = some o) → (∃ o, h'.get? e = some o ∧ o.cls = .type "StopIteration") →
      wpAny (model prog w) A (isInstance (.ref e) (.type "StopIteration") >>= fun c => if c = true then (pure none : Sem (Option Value)) else throw (.ref e)) Q E ⟨h', g, d, tk, os⟩ := fun h' tk e k ⟨o, ho, hc⟩ => by
    refine wpAny_bind (wpAny_isInstance (T := "StopIteration") (b := true) ⟨o, ho, hc⟩ isSubtype_stop ?_)
    exact wpAny_pure (hQ h' tk k)
  by_cases hi : i = n1
  · subst hi
    refine wpAny_bind (D1.done _ _ _ (D1.over t1 hs1 S.zf1) fun g2 e hs2 he => ?_)
    replace hs2 : Heap.ExtBut i1 g1 g2 := hs2
    exact fin_ g2 tk0 e (fun c o c1 c2 _ x => hs2 _ _ c2 (hs1.extBut _ _ c1 x)) he
  · refine wpAny_bind (D1.item i _ _ _ (by omega) (D1.over t1 hs1 S.zf1) fun x1 g2 tk1 hx1 sn1 hs2 => wpAny_pure (wpAny_pure ?_))
    replace hs2 : Heap.SameBut i1 g1 g2 := hs2
    obtain rfl : i = n2 := by rcases he with h | h; exact (hi h).elim; exact h
    refine wpAny_bind (wpAny_bind (wpAny_holding ?_)); show wpAny _ _ (Builtin.SmallTypes.nextOf (.ref i2) >>= _) _ _ ⟨g2, g, d, tk1, os⟩
    refine wpAny_bind (D2.done _ _ _ (D2.over (D2.over t2 hs1 S.zf2) hs2 S.sep1_2) fun g3 e hs3 he => ?_)
    replace hs3 : Heap.ExtBut i2 g2 g3 := hs3
    exact fin_ g3 tk1 e (fun c o c1 c2 c3 x => hs3 _ _ c3 (hs2.extBut _ _ c2 (hs1.extBut _ _ c1 x))) he
end

/-! ### the pairs one by one -/
/-- where a zip over two sources stands ahead of turn i; off: objects that are no pair of it -/
def ZS (z TI TO i1 i2 : Addr) (St1 St2 : Nat → Heap → Prop) (off : Addr) (i : Nat) (h : Heap) : Prop :=
  IsTupOf2 h TI (.ref i1) (.ref i2) ∧ St1 i h ∧ St2 i h ∧ ((IsZip h z TI TO .none ∧ ∃ a b, IsTupOf2 h TO a b) ∨ ∃ T f oT, IsZipHeld h z TI TO T f ∧ h.get? T = some oT ∧ T ≠ z ∧ T ≠ i1 ∧ T ≠ i2 ∧ T ≠ off)
section
variable {prog : Program} {w : World} {A : Around} {E : Value → Shared → Prop} {s : Shared} {z TI TO i1 i2 off : Addr} {fp1 fp2 : List Addr} {n1 n2 i : Nat} {P1 P2 : Nat → Value → Prop} {St1 St2 : Nat → Heap → Prop}
theorem zs_item {Q : Option Value → Shared → Prop} (S : ZipSep2 z TI TO i1 i2 fp1 fp2) (D1 : Draws prog w A.in1 i1 fp1 n1 P1 St1) (D2 : Draws prog w A.in1 i2 fp2 n2 P2 St2) (st : ZS z TI TO i1 i2 St1 St2 off i s.heap) (l1 : i < n1) (l2 : i < n2) (ho : off < s.heap.objs.size)
    (hQ : ∀ x1 x2 T h' tk, P1 i x1 → P2 i x2 → s.heap.objs.size ≤ T → IsTupOf2 h' T x1 x2 → ZS z TI TO i1 i2 St1 St2 off (i + 1) h' → (∀ c o, c ≠ z → c ≠ TO → c ≠ i1 → c ≠ i2 → s.heap.get? c = some o → h'.get? c = some o) → Q (some (.ref T)) { s with heap := h', toks := tk }) :
    wpAny (model prog w) A (pyNext (.ref z)) Q E s := by
  obtain ⟨hTI, t1, t2, hz⟩ := st
  have lt : ∀ {c o}, s.heap.get? c = some o → s.heap.objs.size ≠ c := fun e => Nat.ne_of_gt (Heap.lt_size e)
  have m1 : s.heap.objs.size ≠ i1 := by obtain ⟨_, e⟩ := D1.live _ _ t1; exact lt e
  have m2 : s.heap.objs.size ≠ i2 := by obtain ⟨_, e⟩ := D2.live _ _ t2; exact lt e
  rcases hz with ⟨hz, a, b, hTO⟩ | ⟨T, f, oT, hz, hT, r1, r2, r3, r4⟩
  · refine wpAny_pyNext_zipD2_item S D1 D2 hz hTI hTO t1 t2 l1 l2 fun x1 x2 h' tk y1 y2 b1 b2 d1 d2 b5 b6 hk => ?_
    exact hQ x1 x2 _ h' tk y1 y2 (Nat.le_refl _) b5 ⟨hk _ _ S.TIz S.TITO S.TIi1 S.TIi2 hTI, d1, d2, .inr ⟨s.heap.objs.size, false, _, b1, b5, lt hz, m1, m2, Nat.ne_of_gt ho⟩⟩ hk
  · refine zh_item S D1 D2 hz hT hTI t1 t2 l1 l2 fun x1 x2 h' tk y1 y2 b1 d1 d2 b5 hk => ?_
    exact hQ x1 x2 _ h' tk y1 y2 (Nat.le_refl _) b5 ⟨hk _ _ S.TIz S.TIi1 S.TIi2 hTI, d1, d2, .inr ⟨T, true, oT, b1, hk _ _ r1 r2 r3 hT, r1, r2, r3, r4⟩⟩ fun c o c1 _ c3 c4 e => hk c o c1 c3 c4 e
theorem zs_end {Q : Option Value → Shared → Prop} (S : ZipSep2 z TI TO i1 i2 fp1 fp2) (D1 : Draws prog w A.in1 i1 fp1 n1 P1 St1) (D2 : Draws prog w A.in1 i2 fp2 n2 P2 St2) (st : ZS z TI TO i1 i2 St1 St2 off i s.heap) (l1 : i ≤ n1) (l2 : i ≤ n2) (he : i = n1 ∨ i = n2)
    (hQ : ∀ h' tk, (∀ c o, c ≠ z → c ≠ TO → c ≠ i1 → c ≠ i2 → s.heap.get? c = some o → h'.get? c = some o) → Q none { s with heap := h', toks := tk }) :
    wpAny (model prog w) A (pyNext (.ref z)) Q E s := by
  obtain ⟨hTI, t1, t2, hz⟩ := st
  rcases hz with ⟨hz, a, b, hTO⟩ | ⟨T, f, oT, hz, hT, r1, r2, r3, r4⟩
  · exact wpAny_pyNext_zipD2_end S D1 D2 hz hTI hTO t1 t2 l1 l2 he hQ
  · exact zh_end S D1 D2 hz hT hTI t1 t2 l1 l2 he fun h' tk hk => hQ h' tk fun c o c1 _ c3 c4 e => hk c o c1 c3 c4 e
theorem ZS.frame (D1 : Draws prog w A i1 fp1 n1 P1 St1) (D2 : Draws prog w A i2 fp2 n2 P2 St2) {h h' : Heap} (f1 : off ∉ fp1) (f2 : off ∉ fp2) (fz : off ≠ z) (fT : off ≠ TI) (fO : off ≠ TO) (st : ZS z TI TO i1 i2 St1 St2 off i h) (k : ∀ b o, b ≠ off → h.get? b = some o → h'.get? b = some o) : ZS z TI TO i1 i2 St1 St2 off i h' := by
  obtain ⟨hTI, t1, t2, hz⟩ := st
  refine ⟨k _ _ (Ne.symm fT) hTI, D1.frame _ _ _ t1 fun b hb o e => k b o (fun q => f1 (q ▸ hb)) e, D2.frame _ _ _ t2 fun b hb o e => k b o (fun q => f2 (q ▸ hb)) e, ?_⟩
  rcases hz with ⟨hz, a, b, hTO⟩ | ⟨T, f, oT, hz, hT, r1, r2, r3, r4⟩
  · exact .inl ⟨k _ _ (Ne.symm fz) hz, a, b, k _ _ (Ne.symm fO) hTO⟩
  · exact .inr ⟨T, f, oT, k _ _ (Ne.symm fz) hz, k _ _ r4 hT, r1, r2, r3, r4⟩
end
/-- a source of a zip: iter(v) is a new object o, it draws us -/
structure ZArg (prog : Program) (w : World) (h : Heap) (v : Value) (us : List Value) : Prop where
  ex : ∃ (o : Obj) (B : Heap → Prop) (rd : List Addr), Begins v o B ∧ B h ∧ (∀ b ∈ rd, ∃ o, h.get? b = some o) ∧ ∀ it : Addr, it ∉ rd → ∃ St : Nat → Heap → Prop, (∀ A : Around, A.handled = none → Draws prog w A it (it :: rd) us.length (fun i u => us[i]? = some u) St) ∧ ∀ h', B h' → h'.get? it = some o → St 0 h'
theorem ZArg.list {prog : Program} {w : World} {h : Heap} {l : Addr} {us : List Value} (hl : h.IsList l us.toArray) : ZArg prog w h (.ref l) us := by
  refine ⟨_, _, [l], begins_list l us.toArray, hl, fun b hb => ?_, fun it hit => ?_⟩
  · rw [List.mem_singleton.mp hb]; obtain ⟨o, e, _⟩ := hl; exact ⟨o, e⟩
  · have ne : l ≠ it := fun q => hit (by rw [q]; exact List.mem_singleton.mpr rfl)
    refine ⟨fun i h => h.IsListIter it l i ∧ h.IsList l us.toArray, fun A hA => ?_, fun h' hB e => ⟨⟨_, e, rfl, rfl⟩, hB⟩⟩
    have D := Draws.list (prog := prog) (w := w) (A := A) hA it l ne us.toArray
    have hn : us.toArray.size = us.length := List.size_toArray
    rw [hn] at D
    exact ⟨D.live, D.frame, fun i s Q E hi st hQ => D.item i s Q E hi st fun x h' tk p => hQ x h' tk (by simpa using p), D.done⟩
theorem ZArg.tuple {prog : Program} {w : World} {h : Heap} {l : Addr} {us : List Value} (hl : h.IsTuple l us.toArray) : ZArg prog w h (.ref l) us := by
  refine ⟨_, _, [l], begins_tuple l us.toArray, hl, fun b hb => ?_, fun it hit => ?_⟩
  · rw [List.mem_singleton.mp hb]; obtain ⟨o, e, _⟩ := hl; exact ⟨o, e⟩
  · have ne : l ≠ it := fun q => hit (by rw [q]; exact List.mem_singleton.mpr rfl)
    refine ⟨fun i h => h.IsTupleIter it l i ∧ h.IsTuple l us.toArray, fun A hA => ?_, fun h' hB e => ⟨⟨_, e, rfl, rfl⟩, hB⟩⟩
    have D := Draws.tuple (prog := prog) (w := w) (A := A) hA it l ne us.toArray
    have hn : us.toArray.size = us.length := List.size_toArray
    rw [hn] at D
    exact ⟨D.live, D.frame, fun i s Q E hi st hQ => D.item i s Q E hi st fun x h' tk p => hQ x h' tk (by simpa using p), D.done⟩
/-- what a zip's parts are, ahead of its first turn -/
structure ZOk (prog : Program) (w : World) (z TI TO i1 i2 : Addr) (rd1 rd2 : List Addr) (St1 St2 : Nat → Heap → Prop) (us1 us2 : List Value) (h : Heap) : Prop where
  zip : IsZip h z TI TO .none
  ti : IsTupOf2 h TI (.ref i1) (.ref i2)
  to : ∃ a b, IsTupOf2 h TO a b
  s1 : St1 0 h
  s2 : St2 0 h
  rd : ∀ b ∈ rd1 ++ rd2, ∃ o, h.get? b = some o
structure ZMade (prog : Program) (w : World) (h0 h : Heap) (z TI TO i1 i2 : Addr) (rd1 rd2 : List Addr) (St1 St2 : Nat → Heap → Prop) (us1 us2 : List Value) : Prop where
  sep : ZipSep2 z TI TO i1 i2 (i1 :: rd1) (i2 :: rd2)
  d1 : ∀ A : Around, A.handled = none → Draws prog w A i1 (i1 :: rd1) us1.length (fun i u => us1[i]? = some u) St1
  d2 : ∀ A : Around, A.handled = none → Draws prog w A i2 (i2 :: rd2) us2.length (fun i u => us2[i]? = some u) St2
  ok : ZOk prog w z TI TO i1 i2 rd1 rd2 St1 St2 us1 us2 h
  new : ∀ b ∈ [z, TI, TO, i1, i2], h0.objs.size ≤ b
  kept : ∀ b o, h0.get? b = some o → h.get? b = some o
theorem zip_made {prog : Program} {w : World} {A : Around} {E : Value → Shared → Prop} {s : Shared} {v1 v2 : Value} {xs ys : List Value} {Q : Value → Shared → Prop} (a1 : ZArg prog w s.heap v1 xs) (a2 : ZArg prog w s.heap v2 ys)
    (h : ∀ z TI TO i1 i2 rd1 rd2 St1 St2 h', ZMade prog w s.heap h' z TI TO i1 i2 rd1 rd2 St1 St2 xs ys → Q (.ref z) { s with heap := h' }) : wpAny (model prog w) A (call (.type "zip") [v1, v2]) Q E s := by
  obtain ⟨o1, B1, rd1, b1, c1, l1, f1⟩ := a1
  obtain ⟨o2, B2, rd2, b2, c2, l2, f2⟩ := a2
  have m1 : ∀ b ∈ rd1, b < s.heap.objs.size := fun b hb => let ⟨_, e⟩ := l1 b hb; Heap.lt_size e
  have m2 : ∀ b ∈ rd2, b < s.heap.objs.size := fun b hb => let ⟨_, e⟩ := l2 b hb; Heap.lt_size e
  have lt : ∀ (n : Nat) {l : List Addr}, (∀ b ∈ l, b < s.heap.objs.size) → s.heap.objs.size + n ∉ l := fun n l q hm => absurd (q _ hm) (Nat.not_lt.mpr (Nat.le_add_right _ _))
  obtain ⟨St1, D1, S1⟩ := f1 s.heap.objs.size (lt 0 m1)
  obtain ⟨St2, D2, S2⟩ := f2 (s.heap.objs.size + 1) (lt 1 m2)
  refine zip_begins2 b1 b2 c1 c2 fun h' hz hTI hTO g1 g2 hsz hk => h _ _ _ _ _ rd1 rd2 St1 St2 h' ⟨zip_sep2 m1 m2, D1, D2, ⟨hz, hTI, ⟨_, _, hTO⟩, S1 _ (b1.keeps _ _ c1 hk) g1, S2 _ (b2.keeps _ _ c2 hk) g2, fun b hb => ?_⟩, fun b hb => ?_, hk⟩
  · rcases List.mem_append.mp hb with hb | hb
    · obtain ⟨o, e⟩ := l1 b hb; exact ⟨o, hk _ _ e⟩
    · obtain ⟨o, e⟩ := l2 b hb; exact ⟨o, hk _ _ e⟩
  · simp only [List.mem_cons, List.not_mem_nil, or_false] at hb
    rcases hb with rfl | rfl | rfl | rfl | rfl
    all_goals first | exact Nat.le_refl _ | exact Nat.le_add_right _ _
/-- .. and hands out the pairs, while something is filled at off -/
theorem ZOk.zs {prog : Program} {w : World} {z TI TO i1 i2 off : Addr} {rd1 rd2 : List Addr} {St1 St2 : Nat → Heap → Prop} {us1 us2 : List Value} {h : Heap} (k : ZOk prog w z TI TO i1 i2 rd1 rd2 St1 St2 us1 us2 h) : ZS z TI TO i1 i2 St1 St2 off 0 h := ⟨k.ti, k.s1, k.s2, .inl ⟨k.zip, k.to⟩⟩
theorem ZOk.keep {prog : Program} {w : World} {h0 hm : Heap} {z TI TO i1 i2 : Addr} {rd1 rd2 : List Addr} {St1 St2 : Nat → Heap → Prop} {us1 us2 : List Value} {h h' : Heap} (m : ZMade prog w h0 hm z TI TO i1 i2 rd1 rd2 St1 St2 us1 us2) (A : Around) (hA : A.handled = none)
    (k : ZOk prog w z TI TO i1 i2 rd1 rd2 St1 St2 us1 us2 h) (c : ∀ b o, h.get? b = some o → h'.get? b = some o) : ZOk prog w z TI TO i1 i2 rd1 rd2 St1 St2 us1 us2 h' :=
  ⟨c _ _ k.zip, c _ _ k.ti, let ⟨a, b, e⟩ := k.to; ⟨a, b, c _ _ e⟩, (m.d1 A hA).frame _ _ _ k.s1 fun b _ o e => c _ _ e, (m.d2 A hA).frame _ _ _ k.s2 fun b _ o e => c _ _ e, fun b hb => let ⟨o, e⟩ := k.rd b hb; ⟨o, c _ _ e⟩⟩
def ZRel (us1 us2 : List Value) (i : Nat) (k v : Value) : Prop := us1[i]? = some k ∧ us2[i]? = some v
theorem ZMade.arg {prog : Program} {w : World} {h0 hm : Heap} {z TI TO i1 i2 : Addr} {rd1 rd2 : List Addr} {St1 St2 : Nat → Heap → Prop} {us1 us2 : List Value} (m : ZMade prog w h0 hm z TI TO i1 i2 rd1 rd2 St1 St2 us1 us2) (A0 : Around) (hA0 : A0.handled = none) :
    PairArg prog w "zip" z (z :: TI :: TO :: i1 :: i2 :: (rd1 ++ rd2)) [z, TO, i1, i2] (min us1.length us2.length) (ZRel us1 us2) (ZOk prog w z TI TO i1 i2 rd1 rd2 St1 St2 us1 us2) where
  type := fun s ok => ⟨_, ok.zip, rfl⟩
  notDict := by decide
  keep := fun h h' ok hk => ok.keep m A0 hA0 hk
  there := fun h ok b hb => by
    simp only [List.mem_cons] at hb
    rcases hb with rfl | rfl | rfl | rfl | rfl | hb
    · exact ⟨_, ok.zip⟩
    · exact ⟨_, ok.ti⟩
    · obtain ⟨a, c, e⟩ := ok.to; exact ⟨_, e⟩
    · exact (m.d1 A0 hA0).live _ _ ok.s1
    · exact (m.d2 A0 hA0).live _ _ ok.s2
    · exact ok.rd b hb
  sub := fun b hb => by simp only [List.mem_cons, List.not_mem_nil, or_false] at hb ⊢; rcases hb with rfl | rfl | rfl | rfl <;> simp
  noKeys := fun A s Q E hA ok h => getAttrOr_miss_zip ok.zip rfl rfl rfl zip_no_keys (by decide +kernel) hA h
  iter := fun A s d Q E hA ok hd hdf h => by
    have hA' : A.in1.handled = none := hA
    simp only [List.mem_cons, not_or] at hdf
    obtain ⟨dz, dI, dO, d1, d2, dr⟩ := hdf
    have f1 : d ∉ i1 :: rd1 := fun q => by
      rcases List.mem_cons.mp q with q | q
      · exact d1 q
      · exact dr (List.mem_append_left _ q)
    have f2 : d ∉ i2 :: rd2 := fun q => by
      rcases List.mem_cons.mp q with q | q
      · exact d2 q
      · exact dr (List.mem_append_right _ q)
    refine wpAny_pyIter_zip ok.zip (h z [z, TO, i1, i2] (ZS z TI TO i1 i2 St1 St2 d) s.heap s.toks ⟨?_, fun i h h' st k => st.frame (m.d1 A hA) (m.d2 A hA) f1 f2 dz dI dO k, fun i s1 Q1 E1 hi st hds hQ => ?_, fun s1 Q1 E1 st hQ => ?_⟩ ok.zs (fun _ _ e => e) fun b hb => .inl hb)
    · intro q
      simp only [List.mem_cons, List.not_mem_nil, or_false] at q
      rcases q with q | q | q | q
      · exact dz q
      · exact dO q
      · exact d1 q
      · exact d2 q
    · refine zs_item m.sep (m.d1 _ hA') (m.d2 _ hA') st (by omega) (by omega) hds fun x1 x2 T h' tk y1 y2 _ hT st' hk => ?_
      exact hQ T x1 x2 h' tk ⟨y1, y2⟩ (.inl ⟨_, hT, rfl, _, rfl⟩) st' fun c o hc e => hk c o (fun x => hc (by simp [x])) (fun x => hc (by simp [x])) (fun x => hc (by simp [x])) (fun x => hc (by simp [x])) e
    · refine zs_end m.sep (m.d1 _ hA') (m.d2 _ hA') st (by omega) (by omega) (by omega) fun h' tk hk => ?_
      exact hQ h' tk fun c o hc e => hk c o (fun x => hc (by simp [x])) (fun x => hc (by simp [x])) (fun x => hc (by simp [x])) (fun x => hc (by simp [x])) e

/-! ### list(zip(a, b)) -/
/-- the first i pairs lie in acc -/
def ZAcc (us1 us2 : List Value) (N : Nat) (acc : Array Value) (i : Nat) (h : Heap) : Prop :=
  acc.size = i ∧ ∀ j x y, j < i → us1[j]? = some x → us2[j]? = some y → ∃ T : Addr, N ≤ T ∧ acc[j]? = some (.ref T) ∧ IsTupOf2 h T x y
theorem zip_loop {prog : Program} {w : World} {A : Around} {R : Result → Shared → Prop} {z TI TO i1 i2 S : Addr} {rd1 rd2 : List Addr} {St1 St2 : Nat → Heap → Prop} {us1 us2 : List Value} {res : Value} {N : Nat} (sep : ZipSep2 z TI TO i1 i2 (i1 :: rd1) (i2 :: rd2))
    (d1 : Draws prog w A.in1.in1 i1 (i1 :: rd1) us1.length (fun i u => us1[i]? = some u) St1) (d2 : Draws prog w A.in1.in1 i2 (i2 :: rd2) us2.length (fun i u => us2[i]? = some u) St2) (hS : S ∉ z :: TI :: TO :: i1 :: i2 :: (rd1 ++ rd2)) (hn : min us1.length us2.length ≤ sizeLine) (hN : ∀ b ∈ [S, z, TO, i1, i2], b < N) :
    ∀ (k i : Nat) (s : Shared) (acc : Array Value) (c : Nat), min us1.length us2.length - i = k → i ≤ min us1.length us2.length → N ≤ s.heap.objs.size → ZS z TI TO i1 i2 St1 St2 S i s.heap → s.heap.get? S = some { cls := .type "list", dict := none, data := .seq acc c, slots := #[] } → ZAcc us1 us2 N acc i s.heap →
    (∀ h' tk acc' c', (∀ b o, b ∉ [S, z, TO, i1, i2] → s.heap.get? b = some o → h'.get? b = some o) → h'.get? S = some { cls := .type "list", dict := none, data := .seq acc' c', slots := #[] } → ZAcc us1 us2 N acc' (min us1.length us2.length) h' → R (.ok (.ret res)) { s with heap := h', toks := tk }) →
    codeAny (model prog w) A (.builtin "list.extend.loop" ⟨[.ref S, .ref z, res], []⟩) R s := by
  have off : ∀ {T : Addr}, N ≤ T → T ∉ [S, z, TO, i1, i2] := fun h q => absurd (hN _ q) (Nat.not_lt.mpr h)
  have off' : ∀ {T : Addr}, N ≤ T → T ≠ S ∧ T ≠ z ∧ T ≠ TO ∧ T ≠ i1 ∧ T ≠ i2 := fun h => by
    have q := off h
    simp only [List.mem_cons, List.not_mem_nil, or_false, not_or] at q
    exact q
  simp only [List.mem_cons, List.mem_append, not_or] at hS
  obtain ⟨Sz, SI, SO, S1, S2, Sr1, Sr2⟩ := hS
  have f1 : S ∉ i1 :: rd1 := fun q => (List.mem_cons.mp q).elim S1 Sr1
  have f2 : S ∉ i2 :: rd2 := fun q => (List.mem_cons.mp q).elim S2 Sr2
  intro k
  induction k with
  | zero =>
    intro i s acc c hk hi hsz st e ha hR
    have hin : i = min us1.length us2.length := by omega
    subst hin
    refine codeAny_builtin F.entry_extend_loop ?_
    rw [Around.under_plainId F.plain_extend_loop _]
    show wpAny _ A.in1 (pyNext (.ref z) >>= _) _ _ s
    refine wpAny_bind (zs_end sep d1 d2 st (Nat.min_le_left _ _) (Nat.min_le_right _ _) (by omega) fun h' tk hk' => ?_)
    have e' := hk' _ _ Sz SO S1 S2 e
    refine wpAny_pure (hR h' tk acc c (fun b o hb q => ?_) e' ⟨ha.1, fun j x y hj e1 e2 => ?_⟩)
    · simp only [List.mem_cons, List.not_mem_nil, or_false, not_or] at hb
      exact hk' b o hb.2.1 hb.2.2.1 hb.2.2.2.1 hb.2.2.2.2 q
    · obtain ⟨T, hT, q1, q2⟩ := ha.2 j x y hj e1 e2
      obtain ⟨_, o1, o2, o3, o4⟩ := off' hT
      exact ⟨T, hT, q1, hk' _ _ o1 o2 o3 o4 q2⟩
  | succ k ih =>
    intro i s acc c hk hi hsz st e ha hR
    have hlt : i < min us1.length us2.length := by omega
    refine codeAny_builtin F.entry_extend_loop ?_
    rw [Around.under_plainId F.plain_extend_loop _]
    show wpAny _ A.in1 (pyNext (.ref z) >>= _) _ _ s
    refine wpAny_bind (zs_item sep d1 d2 st (by omega) (by omega) (Heap.lt_size e) fun x1 x2 T h' tk y1 y2 hTs hT st' hk' => ?_)
    have e' := hk' _ _ Sz SO S1 S2 e
    have hsz' : N ≤ h'.objs.size := Nat.le_trans hsz (Nat.le_trans hTs (Nat.le_of_lt (Heap.lt_size hT)))
    show wpAny _ A.in1 (updateSeq S (·.push (.ref T)) >>= _) _ _ _
    refine wpAny_bind ?_
    have up : ∀ b o, b ≠ S → h'.get? b = some o → (h'.update S (Obj.mapSeq (·.push (.ref T)))).get? b = some o := fun b o hb q => (Heap.get?_update_other _ _ (Ne.symm hb)).trans q
    have NT : N ≤ T := Nat.le_trans hsz hTs
    refine wpAny_updateSeq e' rfl (wpAny_pure ⟨plainId_quiet F.plain_extend_loop _, ih (i + 1) _ (acc.push (.ref T)) _ (by omega) hlt ?_ (st'.frame d1 d2 f1 f2 Sz SI SO up) (Heap.get?_update_self _ e' rfl) ⟨by rw [Array.size_push, ha.1], fun j x y hj e1 e2 => ?_⟩ fun h'' tk' acc' c' k2 e2 a2 => ?_⟩) (by rw [ha.1]; omega) (by show (acc.push (.ref T)).size ≤ sizeLine + 1; rw [Array.size_push, ha.1]; omega)
    · show N ≤ (h'.update S _).objs.size
      rw [Heap.size_update]; exact hsz'
    · rcases Nat.lt_or_ge j i with hj' | hj'
      · obtain ⟨T', hT', q1, q2⟩ := ha.2 j x y hj' e1 e2
        obtain ⟨o0, o1, o2, o3, o4⟩ := off' hT'
        refine ⟨T', hT', by rw [Array.getElem?_push_lt (by rw [ha.1]; exact hj')]; rw [← Array.getElem?_eq_getElem]; exact q1, up _ _ o0 (hk' _ _ o1 o2 o3 o4 q2)⟩
      · obtain rfl : j = i := by omega
        rw [y1] at e1; cases e1
        rw [y2] at e2; cases e2
        exact ⟨T, NT, by rw [← ha.1, Array.getElem?_push_size], up _ _ (off' NT).1 hT⟩
    · refine hR h'' tk' acc' c' (fun b o hb q => k2 b o hb (up _ _ ?_ ?_)) e2 a2
      · simp only [List.mem_cons, List.not_mem_nil, or_false, not_or] at hb; exact hb.1
      · simp only [List.mem_cons, List.not_mem_nil, or_false, not_or] at hb
        exact hk' b o hb.2.1 hb.2.2.1 hb.2.2.2.1 hb.2.2.2.2 q
theorem zip_no_len : typeLookup (.type "zip") "__len__" = pure none := am_miss_of_fast (by decide +kernel)
theorem zip_no_hint : typeLookup (.type "zip") "__length_hint__" = pure none := am_miss_of_fast (by decide +kernel)

set_option maxHeartbeats 1000000 in
theorem call_list_zip {prog : Program} {w : World} {A : Around} {E : Value → Shared → Prop} {s : Shared} {h0 : Heap} {z TI TO i1 i2 : Addr} {rd1 rd2 : List Addr} {St1 St2 : Nat → Heap → Prop} {us1 us2 : List Value} {Q : Value → Shared → Prop} (hh : A.handled = none)
    (m : ZMade prog w h0 s.heap z TI TO i1 i2 rd1 rd2 St1 St2 us1 us2) (hn : min us1.length us2.length ≤ sizeLine)
    (hQ : ∀ S h' tk acc c, s.heap.get? S = none → S < h'.objs.size → (∀ b o, b ∉ [z, TO, i1, i2] → s.heap.get? b = some o → h'.get? b = some o) → h'.get? S = some { cls := .type "list", dict := none, data := .seq acc c, slots := #[] } → ZAcc us1 us2 s.heap.objs.size acc (min us1.length us2.length) h' → Q (.ref S) { s with heap := h', toks := tk }) :
    wpAny (model prog w) A (call (.type "list") [.ref z]) Q E s := by
  obtain ⟨sep, d1, d2, ok, new, kept⟩ := m
  let S := s.heap.objs.size
  have lt : ∀ {b o}, s.heap.get? b = some o → S ≠ b := fun e => Nat.ne_of_gt (Heap.lt_size e)
  have hS0 : S ∉ z :: TI :: TO :: i1 :: i2 :: (rd1 ++ rd2) := fun q => by
    have hA : ∀ b ∈ z :: TI :: TO :: i1 :: i2 :: (rd1 ++ rd2), ∃ o, s.heap.get? b = some o := (ZMade.arg ⟨sep, d1, d2, ok, new, kept⟩ A hh).there _ ok
    obtain ⟨o, e⟩ := hA _ q
    exact lt e rfl
  have hlt : ∀ b ∈ [z, TO, i1, i2], b < S := fun b hb => by
    have hA : ∀ b ∈ z :: TI :: TO :: i1 :: i2 :: (rd1 ++ rd2), ∃ o, s.heap.get? b = some o := (ZMade.arg ⟨sep, d1, d2, ok, new, kept⟩ A hh).there _ ok
    obtain ⟨o, e⟩ := hA b (by simp only [List.mem_cons, List.not_mem_nil, or_false] at hb ⊢; rcases hb with rfl | rfl | rfl | rfl <;> simp)
    exact Heap.lt_size e
  have zS : z < S := hlt z List.mem_cons_self
  refine callType_codes (Q₁ := fun obj s1 => obj = .ref S ∧ s1 = { s with heap := s.heap.push { cls := .type "list", data := .seq #[] } }) F.called_list (F.typeCall_list_1 _) F.entry_list_init (code_list_new _ ⟨rfl, rfl⟩) fun obj s1 h1 => ?_
  obtain ⟨rfl, rfl⟩ := h1
  have g0 : (s.heap.push { cls := .type "list", data := .seq #[] }).get? S = some { cls := .type "list", data := .seq #[] } := Heap.get?_push_size _ rfl
  have k0 : ∀ b o, s.heap.get? b = some o → (s.heap.push { cls := .type "list", data := .seq #[] }).get? b = some o := fun b o e => Heap.get?_push_of_some _ e
  have ok0 := ok.keep ⟨sep, d1, d2, ok, new, kept⟩ A hh k0
  refine ⟨⟨_, g0, rfl⟩, F.args_list_init_2 _ _, ?_⟩
  show wpAny _ _ (do let old ← Builtin.List.listItems (.ref S); Builtin.List.listUpdate (.ref S) (fun _ => #[]); letGo old.toList.reverse; Builtin.List.listExtendWith (.ref S) (.ref z) .none) _ _ _
  refine wpAny_bind ?_; unfold Builtin.List.listItems
  refine wpAny_bind (wpAny_seqItems g0 rfl (wpAny_pure ?_))
  show wpAny _ _ (updateSeq S (fun _ => #[]) >>= fun _ => letGo (#[] : Array Value).toList.reverse >>= fun _ => Builtin.List.listExtendWith (.ref S) (.ref z) .none) _ _ _
  refine wpAny_bind (wpAny_updateSeq g0 rfl ?_)
  have g1 := Heap.get?_update_self (Obj.mapSeq (fun _ => (#[] : Array Value))) g0 rfl
  have up : ∀ (h : Heap) (f : Obj → Obj), ZS z TI TO i1 i2 St1 St2 S 0 h → ZS z TI TO i1 i2 St1 St2 S 0 (h.update S f) := fun h f st => by
    simp only [List.mem_cons, List.mem_append, not_or] at hS0
    obtain ⟨Sz, SI, SO, S1, S2, Sr1, Sr2⟩ := hS0
    exact st.frame (d1 A hh) (d2 A hh) (fun q => (List.mem_cons.mp q).elim S1 Sr1) (fun q => (List.mem_cons.mp q).elim S2 Sr2) Sz SI SO fun b o hb q => (Heap.get?_update_other _ _ (Ne.symm hb)).trans q
  have upk : ∀ (h : Heap) (f : Obj → Obj), (∀ b o, s.heap.get? b = some o → h.get? b = some o) → ∀ b o, s.heap.get? b = some o → (h.update S f).get? b = some o := fun h f q b o e => (Heap.get?_update_other _ _ (lt e)).trans (q b o e)
  have ups : ∀ (h : Heap) (f : Obj → Obj), S < h.objs.size → S < (h.update S f).objs.size := fun h f q => by rw [Heap.size_update]; exact q
  refine wpAny_bind (wpAny_letGo ?_)
  unfold Builtin.List.listExtendWith
  have k1 := upk _ (Obj.mapSeq (fun _ => (#[] : Array Value))) k0
  have ty : ∀ {h : Heap}, (∀ b o, s.heap.get? b = some o → h.get? b = some o) → (⟨h, s.gens, s.drawn, s.toks, s.os⟩ : Shared).TypeIs (.ref z) "zip" := fun k => ⟨_, k _ _ ok.zip, rfl⟩
  refine wpAny_bind (wpAny_typeOf (ty k1) ?_)
  have h1 : Builtin.List.listSameRef (.ref S) (.ref z) = false := by simp [Builtin.List.listSameRef, Nat.ne_of_gt zS]
  have h2 : (Value.type "zip" == Value.type "list") = false := by decide
  have h3 : (Value.type "zip" == Value.type "tuple") = false := by decide
  simp only [h1, h2, h3, Bool.or_false, Bool.false_eq_true, if_false]
  refine wpAny_bind (wpAny_pyIter_zip (k1 _ _ ok.zip) ?_)
  refine wpAny_bind (wpAny_holding ?_)
  unfold Builtin.List.listLengthHint
  refine wpAny_bind (wpAny_specialOf (ty k1) zip_no_len ?_); show wpAny _ _ (specialOf (Value.ref z) (Str.ofString "__length_hint__") >>= _) _ _ _
  refine wpAny_bind (wpAny_specialOf (ty k1) zip_no_hint (wpAny_pure ?_))
  show wpAny _ _ (rule "list.extend.makes-room" >>= fun _ => Builtin.List.listTouch (.ref S) >>= fun _ => again (.builtin "list.extend.loop" ⟨[.ref S, .ref z, .none], []⟩)) _ _ _
  refine wpAny_bind (wpAny_rule (wpAny_bind ?_))
  show wpAny _ _ (updateSeq S (·.push .none) >>= fun _ => updateSeq S (·.pop)) _ _ _
  refine wpAny_bind (wpAny_updateSeq g1 rfl ?_)
  have g2 := Heap.get?_update_self (Obj.mapSeq (·.push Value.none)) g1 rfl
  refine wpAny_updateSeq (hz := by seq_fits) g2 rfl ?_
  have g3 := Heap.get?_update_self (Obj.mapSeq (·.pop)) g2 rfl
  have k3 := upk _ (Obj.mapSeq (·.pop)) (upk _ (Obj.mapSeq (·.push Value.none)) k1)
  have s0 : S < (s.heap.push { cls := .type "list", data := .seq #[] }).objs.size := by rw [Heap.size_push]; exact Nat.lt_succ_self _
  have s3 := ups _ (Obj.mapSeq (·.pop)) (ups _ (Obj.mapSeq (·.push Value.none)) (ups _ (Obj.mapSeq (fun _ => (#[] : Array Value))) s0))
  have st3 := up _ (Obj.mapSeq (·.pop)) (up _ (Obj.mapSeq (·.push Value.none)) (up _ (Obj.mapSeq (fun _ => (#[] : Array Value))) ok0.zs))
  refine wpAny_pure ⟨plainId_quiet F.plain_extend_loop _, ?_⟩
  refine zip_loop (A := A.in1) (N := S + 1) sep (d1 _ hh) (d2 _ hh) hS0 hn (fun b hb => ?_) _ 0 ⟨_, s.gens, s.drawn, s.toks, s.os⟩ #[] _ rfl (Nat.zero_le _) (Nat.succ_le_of_lt s3) st3 g3 ⟨rfl, fun j _ _ hj => absurd hj (Nat.not_lt_zero _)⟩ fun h' tk acc c k4 e4 a4 => ?_
  · rcases List.mem_cons.mp hb with rfl | hb
    · exact Nat.lt_succ_self _
    · exact Nat.lt_succ_of_lt (hlt b hb)
  · refine ⟨rfl, hQ S h' tk acc c ?_ (Heap.lt_size e4) (fun b o hb q => k4 b o (fun hm => ?_) (k3 b o q)) e4 ⟨a4.1, fun j x y hj e1 e2 => let ⟨T, q1, q2, q3⟩ := a4.2 j x y hj e1 e2; ⟨T, Nat.le_of_succ_le q1, q2, q3⟩⟩⟩
    · cases q : s.heap.get? S with
      | none => rfl
      | some o => exact (lt q rfl).elim
    · rcases List.mem_cons.mp hm with h | h
      · exact lt q h.symm
      · exact hb h
end EV


/-! EvX: dicts made, read, changed. -/
namespace EV
open PySem PySem.Spec PyProof.Rows L2

abbrev KVD := List (Key × D)
def putP (kvs : KVD) (k : Key) (d : D) : KVD := if (kvs.any fun kv => decide (kv.1 = k)) = true then kvs.map (fun kv => if kv.1 = k then (kv.1, d) else kv) else kvs ++ [(k, d)]
def mergeP (kvs more : KVD) : KVD := more.foldl (fun acc kv => putP acc kv.1 kv.2) kvs
def KVR (C : Ctx) (ρ : Rho) (H : Hp) : KVD → List (Key × V) → Prop := Paired fun p q => p.1 = q.1 ∧ Rel C ρ H p.2 q.2
def keyLike : D → Option Key := keyOf
/-- the pairs of a list of pairs -/
def pairsD : List D → Option KVD
  | [] => some []
  | .tup [k, v] :: r => match keyOf k with
    | some q => (pairsD r).map ((q, v) :: ·)
    | none => none
  | _ => none
def zipP : List D → List D → Option KVD
  | k :: r, v :: t => match keyOf k with
    | some q => (zipP r t).map ((q, v) :: ·)
    | none => none
  | _, _ => some []
section
variable {X : Cx} {C : Ctx} {W : WX} {ρ ρ' : Rho} {H H' : Hp} {hd : Hd} {σ : L2.St} {apos cpos pos p1 p2 p3 q1 q2 : Pos} {a b o e f i : Expr} {ma mb mo me mf : M D}
theorem KVR.len {kvs : KVD} {vvs : List (Key × V)} (r : KVR C ρ H kvs vvs) : kvs.length = vvs.length := Paired.length r
theorem KVR.of : ∀ {ks : List Key} {ds : List D} {vs : List V}, RelL C ρ H ds vs → ks.length = ds.length → KVR C ρ H (ks.zip ds) (ks.zip vs)
  | [], [], vs, r, _ => by simp only [RelL] at r; subst r; exact .nil
  | [], _ :: _, _, _, h => by cases h
  | _ :: _, [], _, _, h => by cases h
  | k :: ks, d :: ds, vs, r, h => by
    simp only [RelL] at r
    obtain ⟨v, t, rfl, r1, r2⟩ := r
    exact .cons ⟨rfl, r1⟩ (KVR.of r2 (Nat.succ.inj h))
theorem KVR.to : ∀ {kvs : KVD} {vvs : List (Key × V)}, KVR C ρ H kvs vvs → RelL C ρ H (kvs.map (·.2)) (vvs.map (·.2)) ∧ (kvs.map (·.1)).zip (vvs.map (·.2)) = vvs
  | _, _, .nil => ⟨RelL.nil, rfl⟩
  | _, _, .cons (a := p) (b := q) r t => by
    obtain ⟨h1, h2⟩ := KVR.to t
    refine ⟨RelL.cons r.2 h1, ?_⟩
    rw [List.map_cons, List.map_cons, List.zip_cons_cons, h2, r.1]
theorem KVR.keeps {kvs : KVD} {vvs : List (Key × V)} (x : Keeps ρ ρ' H H') (r : KVR C ρ H kvs vvs) : KVR C ρ' H' kvs vvs := Paired.mapP r fun _ _ z => ⟨z.1, Rel.keeps x _ _ z.2⟩
theorem KVR.ext {kvs : KVD} {vvs : List (Key × V)} (x : Ext ρ ρ' H H') (r : KVR C ρ H kvs vvs) : KVR C ρ' H' kvs vvs := r.keeps x.keeps
theorem KVR.any {kvs : KVD} {vvs : List (Key × V)} (r : KVR C ρ H kvs vvs) (k : Key) : (kvs.any fun kv => decide (kv.1 = k)) = vvs.any fun kv => decide (kv.1 = k) := by
  induction r with
  | nil => rfl
  | cons h t ih => rw [List.any_cons, List.any_cons, ih, h.1]
theorem KVR.repl {d : D} {v : V} {k : Key} (rd : Rel C ρ H d v) : ∀ {kvs : KVD} {vvs : List (Key × V)}, KVR C ρ H kvs vvs → KVR C ρ H (kvs.map (fun kv => if kv.1 = k then (kv.1, d) else kv)) (vvs.map (fun kv => if kv.1 = k then (kv.1, v) else kv))
  | _, _, .nil => .nil
  | _, _, .cons (a := p) (b := q) h t => by
    rw [List.map_cons, List.map_cons]
    refine .cons ?_ (KVR.repl rd t)
    by_cases e : p.1 = k
    · rw [if_pos e, if_pos (h.1 ▸ e)]; exact ⟨h.1, rd⟩
    · rw [if_neg e, if_neg (h.1 ▸ e)]; exact h
theorem KVR.put {kvs : KVD} {vvs : List (Key × V)} {d : D} {v : V} (r : KVR C ρ H kvs vvs) (k : Key) (rd : Rel C ρ H d v) : KVR C ρ H (putP kvs k d) (putK vvs k v) := by
  unfold putP putK
  rw [r.any k]
  split
  · exact r.repl rd
  · exact Paired.snoc r ⟨rfl, rd⟩
theorem KVR.merge : ∀ {more kvs : KVD} {mv vvs : List (Key × V)}, KVR C ρ H more mv → KVR C ρ H kvs vvs → KVR C ρ H (mergeP kvs more) (mergeK vvs mv)
  | _, _, _, _, .nil, r => r
  | _, kvs, _, vvs, .cons (a := p) (b := q) (l₁ := ms) (l₂ := ns) h t, r => by
    have e := r.put p.1 h.2
    rw [h.1] at e
    have := KVR.merge (more := ms) (mv := ns) t e
    rw [← h.1] at this
    show KVR C ρ H (mergeP (putP kvs p.1 p.2) ms) (mergeK (putK vvs q.1 q.2) ns)
    rw [← h.1]
    exact this
/-- a new dict of these pairs (m: one that will be changed) -/
def finD (m : Bool) (r : Option KVD) (h : Hd) : Res D := match r with
  | none => .bad
  | some kvs => if m then .ok (.ref h.length) (h ++ [.dic (kvs.map (·.1)) (kvs.map (·.2))]) else .ok (.dic (kvs.map (·.1)) (kvs.map (·.2))) h
theorem PostX.finD {Q : VK} {W' : Value → Option Addr → Hp → Prop} {m : Bool} {r : Option KVD} (sh : SimH C ρ H hd) (p : PostX C (Rel C) ρ H W' Q (finD m r hd)) :
    ∃ kvs, r = some kvs ∧ ∀ q vvs, H q = none → KVR C ρ H kvs vvs → Q (.ref q) (upd H q (.dK vvs)) := by
  cases r with
  | none => exact p.elim
  | some kvs =>
    refine ⟨kvs, rfl, fun q vvs hq kr => ?_⟩
    obtain ⟨rl, ez⟩ := kr.to
    cases m with
    | true =>
      refine p _ _ _ (Ext.push hq) (sh.pushO hq ⟨vvs.map (·.2), ?_, rl, by simp⟩) (rel_new sh)
      rw [ez]
    | false =>
      refine p _ _ _ (Ext.upd_new hq) (sh.upd_new hq) ?_
      simp only [Rel]
      refine ⟨q, vvs.map (·.2), rfl, ⟨?_, sh.unm hq⟩, RelL.ext (Ext.upd_new hq) _ _ rl, by simp⟩
      rw [ez, upd_same]

theorem orE {e : Expr} {t t' : TE} (h : PE X e t) (h' : PE X e t') : PE X e (fun σ H Q => t σ H Q ∨ t' σ H Q) := ⟨fun pins s σ H Q I q => q.elim (h.run pins s σ H Q I) (h'.run pins s σ H Q I)⟩
theorem orT {e : Expr} {t t' : TT} (h : PT X e t) (h' : PT X e t') : PT X e (fun σ H Q => t σ H Q ∨ t' σ H Q) := ⟨fun pins s σ H Q I q => q.elim (h.run pins s σ H Q I) (h'.run pins s σ H Q I)⟩
/-! ### dict(x) -/
def fDict (d : D) (h : Hd) : Option KVD := match dicOf d h with
  | some (ks, ds) => some (ks.zip ds)
  | none => match lstOf d h with
    | some xs => (pairsD xs).map (mergeP [])
    | none => none
theorem pairs_rel : ∀ {xs : List D} {vs : List V} {kvs : KVD}, pairsD xs = some kvs → RelL C ρ H xs vs → ∃ (ps : List Addr) (vvs : List (Key × V)), vs = ps.map V.ref ∧ KVR C ρ H kvs vvs ∧ Paired (fun p kv => SqT C.K H p [kV kv.1, kv.2]) ps vvs
  | [], vs, kvs, e, r => by
    simp only [pairsD, Option.some.injEq] at e; subst e
    simp only [RelL] at r; subst r
    exact ⟨[], [], rfl, .nil, .nil⟩
  | x :: xs, vs, kvs, e, r => by
    unfold pairsD at e
    split at e
    · rename_i q; cases q
    · rename_i k v t q
      cases q
      split at e
      · rename_i key ek
        cases ep : pairsD xs with
        | none => rw [ep] at e; cases e
        | some more =>
          rw [ep] at e
          simp only [Option.map_some, Option.some.injEq] at e; subst e
          simp only [RelL] at r
          obtain ⟨w, ws, rfl, r1, r2⟩ := r
          obtain ⟨ps, vvs, rfl, h2, h3⟩ := pairs_rel ep r2
          obtain ⟨T, us, rfl, hT, rl, _⟩ := tup_of r1
          obtain ⟨y, z, rfl, ry, rz⟩ := relL2 rl
          refine ⟨T :: ps, (key, z) :: vvs, rfl, .cons ⟨rfl, rz⟩ h2, .cons ?_ h3⟩
          rw [key_of ry ek] at hT
          exact hT
      · cases e
    · cases e
def mdict (m : Bool) (a : M D) : M D := fun env h => (a env h).bind fun x h1 => finD m (fDict x h1) h1
theorem ev_dict {m : Bool} {p : Pos} (hK : X.K = C.K) (hc : X.calm = true) (hm : X.mg "dict" = none) (hg : X.env.kindOf "dict" = some .globalImplicit) (hv : bootBuiltins "dict" = some (.type "dict")) (ha : PE X a (tE C W ma)) (hs : notStar a = true) :
    PE X (.Call (.Name "dict" p) [a] [] pos) (tE C W (mdict m ma)) := by
  have hl : ∀ (r : List V → Hp → VK → Prop), CallR X (.type "dict") r → PE X (.Call (.Name "dict" p) [a] [] pos) (tCB r (tL C W (mcons ma mnil))) := fun r h => pe_callTy h hg hm hv (evl_cons ha evl_nil hs) (by decide) (by decide) (starEach_at hs) rfl
  refine weakE (orE (hl _ call_dictD) (hl _ (call_dictP hc))) fun σ H Q ⟨ρ, env, hd, er, sh, p⟩ => ?_
  have go : ∀ {Q' : List V → Hp → Prop}, (∀ v H1 ρ1 hd1 d, ma env hd = .ok d hd1 → Ext ρ ρ1 H H1 → SimH C ρ1 H1 hd1 → Rel C ρ1 H1 d v → PostX C (Rel C) ρ1 H1 (fun c d H' => W c d σ H') Q (finD m (fDict d hd1) hd1) → Q' [v] H1) → tL C W (mcons ma mnil) σ H Q' := fun {Q'} h => by
    refine ⟨ρ, env, hd, er, sh, ?_⟩
    unfold mdict at p
    unfold mcons mnil
    cases e : ma env hd with
    | bad => rw [e] at p; exact p.elim
    | exc x h0 => rw [e] at p; exact p
    | ok d h0 =>
      rw [e] at p
      intro ρ1 H1 vs x s r
      obtain ⟨v, rfl, r1⟩ := relL1 r
      exact h v H1 ρ1 h0 d e x s r1 (PostX.ext x p)
  cases e0 : ma env hd with
  | bad => unfold mdict at p; rw [e0] at p; exact p.elim
  | exc x h0 => exact .inl (go fun v H1 ρ1 hd1 d e => by rw [e0] at e; cases e)
  | ok d h0 =>
    cases e1 : dicOf d h0 with
    | some kx =>
      obtain ⟨ks, ds⟩ := kx
      refine .inl (go fun v H1 ρ1 hd1 d' e x s r p1 => ?_)
      rw [e0] at e; cases e
      obtain ⟨kvs, ek, hq⟩ := p1.finD s
      simp only [fDict, e1] at ek
      cases ek
      obtain ⟨A, vs, rfl, t, rl, hz⟩ := dic_of s r e1
      exact ⟨A, _, rfl, .inl t, fun q hn => hq q _ hn (KVR.of rl hz)⟩
    | none =>
      refine .inr (go fun v H1 ρ1 hd1 d' e x s r p1 => ?_)
      rw [e0] at e; cases e
      obtain ⟨kvs, ek, hq⟩ := p1.finD s
      simp only [fDict, e1] at ek
      split at ek
      · rename_i xs el
        cases ep : pairsD xs with
        | none => rw [ep] at ek; cases ek
        | some more =>
          rw [ep] at ek
          cases ek
          obtain ⟨A, vs, rfl, t, rl, _⟩ := lst_of s r el
          obtain ⟨ps, vvs, rfl, h2, h3⟩ := pairs_rel ep rl
          rw [← hK] at h3
          exact ⟨A, ps, vvs, rfl, .of t, h3, fun q hn => hq q _ hn (KVR.merge h2 .nil)⟩
      · cases ek
end
end EV


/-! EvY: dict(zip(a, b)), dict(list(zip(a, b))), displays, d[k], k in d, d.update(ps), d[k] = v. -/
namespace EV
open PySem PySem.Spec PyProof.Rows L2
section
variable {X : Cx} {C : Ctx} {W : WX} {ρ ρ' : Rho} {H H' : Hp} {hd : Hd} {σ : L2.St} {apos cpos pos p1 p2 p3 q1 q2 q3 : Pos} {a b o e f i : Expr} {ma mb mo me mf : M D}
theorem zarg_of {pins : List (Addr × Obj)} {s : Shared} {d : D} {v : V} {u : Value} {xs : List D} (hK : X.K = C.K) (I : Inv X pins σ H s) (sh : SimH C ρ H hd) (r : Rel C ρ H d v) (rv : RelV v u) (e : seqOf d hd = some xs) :
    ∃ (us : List Value) (vs : List V), ZArg X.prog X.w s.heap u us ∧ Vals vs us ∧ RelL C ρ H xs vs ∧ xs.length ≤ sizeLine := by
  obtain ⟨A, vs, rfl, t, rl, z⟩ := seq_of sh r e
  obtain rfl : u = Value.ref A := rv
  rcases t with t | t
  · obtain ⟨its, r1, ⟨ob, n, h1, h2, h3, h4⟩, _⟩ := I.list (hK ▸ t)
    exact ⟨its, vs, .list ⟨ob, h1, h2, n, h4⟩, r1, rl, z⟩
  · obtain ⟨its, r1, t1, _⟩ := I.tuple (hK ▸ t)
    exact ⟨its, vs, .tuple t1, r1, rl, z⟩
theorem zip_pairs {P : Program} {w : World} : ∀ {ds es : List D} {vs ws : List V} {us us' : List Value} {kvs : KVD}, RelL C ρ H ds vs → RelL C ρ H es ws → Vals vs us → Vals ws us' → zipP ds es = some kvs →
    ∃ (vvs : List (Key × V)) (prs : List (Key × Value)), KVR C ρ H kvs vvs ∧ KV vvs prs ∧ PairsHave (mixKind P w) (min us.length us'.length) (ZRel us us') prs
  | [], es, vs, ws, us, us', kvs, r1, r2, v1, v2, e => by
    simp only [RelL] at r1; subst r1
    cases v1
    have e' : some [] = some kvs := by cases es <;> exact e
    cases e'
    exact ⟨[], [], .nil, .nil, by simp, fun i k v ⟨q, _⟩ => by simp at q⟩
  | d :: ds, [], vs, ws, us, us', kvs, r1, r2, v1, v2, e => by
    simp only [RelL] at r2; subst r2
    cases v2
    have e' : some [] = some kvs := e
    cases e'
    exact ⟨[], [], .nil, .nil, by simp, fun i k v ⟨_, q⟩ => by simp at q⟩
  | d :: ds, x :: es, vs, ws, us, us', kvs, r1, r2, v1, v2, e => by
    simp only [RelL] at r1 r2
    obtain ⟨v, vr, rfl, r1a, r1b⟩ := r1
    obtain ⟨y, yr, rfl, r2a, r2b⟩ := r2
    cases v1 with
    | @cons _ u _ ur t1 t2 =>
    cases v2 with
    | @cons _ u' _ ur' t3 t4 =>
    unfold zipP at e
    split at e
    · rename_i key ek
      cases ep : zipP ds es with
      | none => rw [ep] at e; cases e
      | some more =>
        rw [ep] at e
        simp only [Option.map_some, Option.some.injEq] at e; subst e
        obtain ⟨vvs, prs, h1, h2, h3, h4⟩ := zip_pairs (P := P) (w := w) r1b r2b t2 t4 ep
        refine ⟨(key, y) :: vvs, (key, u') :: prs, .cons ⟨rfl, r2a⟩ h1, .cons ⟨rfl, t3⟩ h2, by simp only [List.length_cons, h3]; omega, fun i k v ⟨q1, q2⟩ => ?_⟩
        cases i with
        | zero =>
          simp only [List.getElem?_cons_zero, Option.some.injEq] at q1 q2
          subst q1; subst q2
          refine ⟨key, rfl, kV_is (P := P) (w := w) ?_⟩
          rw [← key_of r1a ek]; exact t1
        | succ i =>
          simp only [List.getElem?_cons_succ] at q1 q2 ⊢
          exact h4 i k v ⟨q1, q2⟩
    · cases e
/-- a dict that was made at a new place -/
theorem dict_laid {pins : List (Addr × Obj)} {s : Shared} {h' : Heap} {tk : Nat} {q : Addr} {vvs : List (Key × V)} {prs : List (Key × Value)} (I : Inv X pins σ H s) (k : ∀ b o, s.heap.get? b = some o → h'.get? b = some o) (hq : s.heap.objs.size ≤ q)
    (dd : h'.DictOf (mixKind X.prog X.w) q (merged [] prs)) (r : KV vvs prs) (hz : vvs.length ≤ sizeLine) : Inv X pins σ (upd H q (.dK (mergeK [] vvs))) { s with heap := h', toks := tk } := by
  have hm : (q == sysModules) = false := beq_eq_false_iff_ne.mpr (Nat.ne_of_gt (Nat.lt_of_lt_of_le I.big hq))
  have hlen : (mergeK [] vvs).length ≤ sizeLine := Nat.le_trans (length_mergeK vvs []) (by rw [List.length_nil, Nat.zero_add]; exact hz)
  exact I.laid (t' := tk) k hq (show ObjOk X.prog X.w _ _ _ (.dK (mergeK [] vvs)) from ⟨hlen, hm, merged [] prs, KV.merge r .nil, dd⟩)
def mdzip (m : Bool) (a b : M D) : M D := fun env h => (a env h).bind fun x h1 => (b env h1).bind fun y h2 => finD m (match seqOf x h2, seqOf y h2 with
  | some xs, some ys => (zipP xs ys).map (mergeP [])
  | _, _ => none) h2
/-- the sources of zip(a, b), read -/
theorem run_zip {pins : List (Addr × Obj)} {s : Shared} {m : Bool} {Q : VK} {Z : Value → Shared → Prop} (hK : X.K = C.K) (ha : PE X a (tE C W ma)) (hb : PE X b (tE C W mb)) (hz : X.mg "zip" = none) (gz : X.env.kindOf "zip" = some .globalImplicit) (sa : notStar a = true) (sb : notStar b = true)
    (I : Inv X pins σ H s) (t : tE C W (mdzip m ma mb) σ H Q)
    (go : ∀ (H1 : Hp) (s1 : Shared) (h2 : Heap) (z TI TO i1 i2 : Addr) (rd1 rd2 : List Addr) (St1 St2 : Nat → Heap → Prop) (us us' : List Value) (vvs : List (Key × V)) (prs : List (Key × Value)), Inv X pins σ H1 s1 → ZMade X.prog X.w s1.heap h2 z TI TO i1 i2 rd1 rd2 St1 St2 us us' →
      KV vvs prs → vvs.length ≤ sizeLine → PairsHave (mixKind X.prog X.w) (min us.length us'.length) (ZRel us us') prs → us.length ≤ sizeLine → (∀ q, H1 q = none → Q (.ref q) (upd H1 q (.dK (mergeK [] vvs)))) → Z (.ref z) { s1 with heap := h2 }) :
    wpAny (model X.prog X.w) X.A (eval (.Call (.Name "zip" p2) [a, b] [] q2) X.env) Z X.xe s := by
  refine wpAny_Call_Name_kw (ld_blt I gz hz (by rfl) ?_)
  refine PyProof.Rows.callWith_type1 ?_ (starEach_at sa) (plain_of (by unfold noStars; rw [sb]; rfl))
  have hA : PA X [a, b] (tL C W (mcons ma (mcons mb mnil))) := evl_cons ha (evl_cons hb evl_nil sb) sa
  obtain ⟨ρ, env, hd, er, sh, p⟩ := t
  refine thn (hA.run q2 pins s σ H (fun vs H1 => ∃ ρ1 hd1 x y v w, vs = [v, w] ∧ SimH C ρ1 H1 hd1 ∧ Rel C ρ1 H1 x v ∧ Rel C ρ1 H1 y w ∧ PostX C (Rel C) ρ1 H1 (fun c d H' => W c d σ H') Q (finD m (match seqOf x hd1, seqOf y hd1 with
      | some xs, some ys => (zipP xs ys).map (mergeP [])
      | _, _ => none) hd1)) I ⟨ρ, env, hd, er, sh, ?_⟩) fun us0 s1 ⟨vs, H1, I1, rv, ρ1, hd1, x, y, v, w, ev, s1', rx, ry, p1⟩ => ?_
  · unfold mdzip at p
    unfold mcons mnil
    cases e : ma env hd with
    | bad => rw [e] at p; exact p.elim
    | exc x h0 => rw [e] at p; exact p
    | ok d h0 =>
      rw [e] at p
      simp only [Res.bind_ok] at p ⊢
      cases e2 : mb env h0 with
      | bad => rw [e2] at p; exact p.elim
      | exc x h0 => rw [e2] at p; exact p
      | ok d2 h2 =>
        rw [e2] at p
        simp only [Res.bind_ok] at p ⊢
        intro ρ1 H1 vs xx ss rr
        obtain ⟨v, w, rfl, r1, r2⟩ := relL2 rr
        exact ⟨ρ1, h2, d, d2, v, w, rfl, ss, r1, r2, PostX.ext xx p⟩
  · subst ev
    obtain ⟨kvs, ek, hq⟩ := p1.finD s1'
    split at ek
    · rename_i xs ys ex ey
      cases ez : zipP xs ys with
      | none => rw [ez] at ek; cases ek
      | some kv0 =>
        rw [ez] at ek
        cases ek
        cases rv with
        | @cons _ u _ _ t1 t2 =>
        cases t2 with
        | @cons _ u' _ _ t3 t4 =>
        cases t4
        obtain ⟨us, ws, z1, v1, rl1, l1⟩ := zarg_of hK I1 s1' rx t1 ex
        obtain ⟨us', ws', z2, v2, rl2, l2⟩ := zarg_of hK I1 s1' ry t3 ey
        obtain ⟨vvs, prs, k1, k2, k3⟩ := zip_pairs (P := X.prog) (w := X.w) rl1 rl2 v1 v2 ez
        have lu : us.length ≤ sizeLine := by rw [← v1.length, ← rl1.length]; exact l1
        have lv : vvs.length ≤ sizeLine := by
          have e1 := k2.length
          have e2 := k3.1
          have e3 : vvs.length = prs.length := e1
          omega
        refine zip_made z1 z2 fun z TI TO i1 i2 rd1 rd2 St1 St2 h2 zm => ?_
        exact go H1 s1 h2 z TI TO i1 i2 rd1 rd2 St1 St2 us us' vvs prs I1 zm k2 lv k3 lu fun q hn => hq q _ hn (KVR.merge k1 .nil)
    · cases ek
theorem ev_dictzip {m : Bool} (hK : X.K = C.K) (hc : X.calm = true) (hm : X.mg "dict" = none) (hg : X.env.kindOf "dict" = some .globalImplicit) (hv : bootBuiltins "dict" = some (.type "dict")) (hz : X.mg "zip" = none) (gz : X.env.kindOf "zip" = some .globalImplicit)
    (ha : PE X a (tE C W ma)) (hb : PE X b (tE C W mb)) (sa : notStar a = true) (sb : notStar b = true) : PE X (.Call (.Name "dict" p1) [.Call (.Name "zip" p2) [a, b] [] q2] [] q1) (tE C W (mdzip m ma mb)) := by
  refine ⟨fun pins s σ H Q I t => ?_⟩
  refine wpAny_Call_Name_kw (ld_blt I hg hm hv ?_)
  refine PyProof.Rows.callWith_type1 ?_ (starEach_at rfl) rfl
  rw [starEach_at (e := .Call (.Name "zip" p2) [a, b] [] q2) rfl]
  show wpAny _ _ (spliced ((false, eval (.Call (.Name "zip" p2) [a, b] [] q2) X.env) :: backTo q1 (starEach [] X.env))) _ _ s
  refine Calls.spliced_cons (run_zip hK ha hb hz gz sa sb I t fun H1 s1 h2 z TI TO i1 i2 rd1 rd2 St1 St2 us us' vvs prs I1 zm k2 lv k3 lu hq => Calls.spliced_nil ?_)
  refine PySem.call_dict_pairs (knd := mixKind X.prog X.w) (s := { s1 with heap := h2 }) (zm.arg X.A (I1.ok.hd hc)) (I1.ok.hd hc) zm.ok k3 (by omega) fun h' tk dd k => ?_
  have kk : ∀ b o, s1.heap.get? b = some o → h'.get? b = some o := fun b o e => k b o (fun hm => by
    have h1 := zm.new b (by simp only [List.mem_cons, List.not_mem_nil, or_false] at hm ⊢; rcases hm with rfl | rfl | rfl | rfl <;> simp)
    exact absurd (Heap.lt_size e) (Nat.not_lt.mpr h1)) (zm.kept b o e)
  have hsz : s1.heap.objs.size ≤ h2.objs.size := Nat.le_trans (zm.new z List.mem_cons_self) (Nat.le_of_lt (Heap.lt_size zm.ok.zip))
  have J := dict_laid (tk := tk) I1 kk hsz dd k2 lv
  exact ⟨.ref _, _, J, rfl, hq _ (I1.hok.fresh hsz)⟩
theorem ev_dictlzip {m : Bool} (hK : X.K = C.K) (hc : X.calm = true) (hm : X.mg "dict" = none) (hg : X.env.kindOf "dict" = some .globalImplicit) (hv : bootBuiltins "dict" = some (.type "dict")) (hz : X.mg "zip" = none) (gz : X.env.kindOf "zip" = some .globalImplicit)
    (hl : X.mg "list" = none) (gl : X.env.kindOf "list" = some .globalImplicit) (vl : bootBuiltins "list" = some (.type "list")) (ha : PE X a (tE C W ma)) (hb : PE X b (tE C W mb)) (sa : notStar a = true) (sb : notStar b = true) :
    PE X (.Call (.Name "dict" p1) [.Call (.Name "list" p3) [.Call (.Name "zip" p2) [a, b] [] q2] [] q3] [] q1) (tE C W (mdzip m ma mb)) := by
  refine ⟨fun pins s σ H Q I t => ?_⟩
  refine wpAny_Call_Name_kw (ld_blt I hg hm hv ?_)
  refine PyProof.Rows.callWith_type1 ?_ (starEach_at rfl) rfl
  rw [starEach_at (e := .Call (.Name "list" p3) [.Call (.Name "zip" p2) [a, b] [] q2] [] q3) rfl]
  show wpAny _ _ (spliced ((false, eval (.Call (.Name "list" p3) [.Call (.Name "zip" p2) [a, b] [] q2] [] q3) X.env) :: backTo q1 (starEach [] X.env))) _ _ s
  refine Calls.spliced_cons ?_
  refine wpAny_Call_Name_kw (ld_blt I gl hl vl ?_)
  refine PyProof.Rows.callWith_type1 ?_ (starEach_at rfl) rfl
  rw [starEach_at (e := .Call (.Name "zip" p2) [a, b] [] q2) rfl]
  show wpAny _ _ (spliced ((false, eval (.Call (.Name "zip" p2) [a, b] [] q2) X.env) :: backTo q3 (starEach [] X.env))) _ _ s
  refine Calls.spliced_cons (run_zip hK ha hb hz gz sa sb I t fun H1 s1 h2 z TI TO i1 i2 rd1 rd2 St1 St2 us us' vvs prs I1 zm k2 lv k3 lu hq => Calls.spliced_nil ?_)
  have hh := I1.ok.hd hc
  refine call_list_zip (s := { s1 with heap := h2 }) hh zm (by omega) fun S h3 tk acc c Sn Slt k4 e4 a4 => Calls.spliced_nil ?_
  let Ts : Nat → Addr := fun j => match acc[j]? with
    | some (.ref T) => T
    | _ => 0
  have hm2 : min us.length us'.length = (us.zip us').length := (List.length_zip).symm
  have pi : PairItems h3 acc Ts (us.zip us') := by
    refine ⟨by rw [a4.1, hm2], fun j x y hj => ?_⟩
    have hj' := List.getElem?_zip_eq_some.mp hj
    have jl := (List.getElem?_eq_some_iff.mp hj).1
    obtain ⟨T, _, q1, q2⟩ := a4.2 j x y (by rw [hm2]; exact jl) hj'.1 hj'.2
    have eT : Ts j = T := by show (match acc[j]? with | some (.ref T) => T | _ => 0) = T; rw [q1]
    rw [eT]
    exact ⟨q1, .inl ⟨_, q2, rfl, _, rfl⟩⟩
  have ph : PairsHave (mixKind X.prog X.w) (us.zip us').length (PairRel (us.zip us')) prs := by
    refine ⟨by rw [k3.1, hm2], fun j x y hj => ?_⟩
    have hj' := List.getElem?_zip_eq_some.mp hj
    exact k3.2 j x y ⟨hj'.1, hj'.2⟩
  refine PySem.call_dict_pairs (knd := mixKind X.prog X.w) (s := { s1 with heap := h3, toks := tk }) (PairArg.list S acc Ts (us.zip us')) hh ⟨⟨_, _, e4, rfl, rfl, rfl⟩, pi⟩ ph (by rw [← hm2]; omega) fun h' tk' dd k => ?_
  have kk : ∀ b o, s1.heap.get? b = some o → h'.get? b = some o := fun b o e => k b o (fun hm => nomatch hm) (k4 b o (fun hm => by
    have h1 := zm.new b (by simp only [List.mem_cons, List.not_mem_nil, or_false] at hm ⊢; rcases hm with rfl | rfl | rfl | rfl <;> simp)
    exact absurd (Heap.lt_size e) (Nat.not_lt.mpr h1)) (zm.kept b o e))
  have hsz : s1.heap.objs.size ≤ h3.objs.size := by
    have h1 := zm.new TI (by simp)
    have h2 := k4 TI _ (fun hm => ?_) zm.ok.ti
    · exact Nat.le_trans h1 (Nat.le_of_lt (Heap.lt_size h2))
    · simp only [List.mem_cons, List.not_mem_nil, or_false] at hm
      rcases hm with q | q | q | q
      · exact zm.sep.TIz q
      · exact zm.sep.TITO q
      · exact zm.sep.TIi1 q
      · exact zm.sep.TIi2 q
  have J := dict_laid (tk := tk') I1 kk hsz dd k2 lv
  exact ⟨.ref _, _, J, rfl, hq _ (I1.hok.fresh hsz)⟩
end
end EV


/-! EvZ: displays of dicts, d[k], k in d, d.update(ps), d[k] = v; a local name that holds a def; list(text). -/
namespace EV
open PySem PySem.Spec PyProof.Rows L2
section
variable {X : Cx} {C : Ctx} {W : WX} {ρ ρ' : Rho} {H H' : Hp} {hd : Hd} {σ : L2.St} {env : Env} {apos cpos pos p1 p2 p3 q1 q2 q3 : Pos} {a b o e f i : Expr} {ma mb mo me mf : M D}
/-- an object that was made out of sight is a new one that changes -/
theorem SimH.showO {p : Addr} {o : MO} (s : SimH C (ρ.hide p) H hd) (hu : p ∉ ρ.hid) (hr : Unr ρ p) (r : ORel C (ρ.hide p) H o (H p)) : SimH C (ρ.push p) H (hd ++ [o]) := by
  have kp : Keeps (ρ.hide p) (ρ.push p) H H := ⟨fun a u h f => ⟨h, fun n e => by
    rcases get_snoc e with z | ⟨_, z⟩
    · exact f.1 n z
    · cases z; exact f.2 List.mem_cons_self, fun z => f.2 (List.mem_cons_of_mem _ z)⟩, fun n h => .inl (List.getElem?_append_left h)⟩
  refine ⟨by simp [s.len], fun m n a h1 h2 => ?_, fun n a e => ?_, fun n o e h => ?_, fun a ha => s.hidS a (List.mem_cons_of_mem _ ha), fun n a e ha => ?_⟩
  · rcases get_snoc h1 with z1 | ⟨z1, z1'⟩ <;> rcases get_snoc h2 with z2 | ⟨z2, z2'⟩
    · exact s.inj m n a z1 z2
    · cases z2'; exact (hr m z1).elim
    · cases z1'; exact (hr n z2).elim
    · omega
  · rcases get_snoc e with z | ⟨z, z'⟩
    · obtain ⟨u, h1, h2⟩ := s.at_ n a z
      exact ⟨u, by rw [List.getElem?_append_left (List.getElem?_eq_some_iff.mp h1).1]; exact h1, h2.keeps kp⟩
    · cases z'
      have hl : ρ.r.length = hd.length := s.len
      exact ⟨o, by rw [z, hl]; simp, r.keeps kp⟩
  · rcases get_snoc h with z | ⟨_, z⟩
    · have hn : n < hd.length := by rw [← s.len]; exact (List.getElem?_eq_some_iff.mp z).1
      rw [List.getElem?_append_left hn] at e
      exact s.live n o e z
    · cases z
  · rcases get_snoc e with z | ⟨_, z⟩
    · exact s.apart n a z (List.mem_cons_of_mem _ ha)
    · cases z; exact hu ha
theorem Ext.showP {p : Addr} (x : Ext ρ ρ' H H') (hp : H p = none) : Ext ρ (ρ'.push p) H H' :=
  ⟨by have := x.le; simp; omega, fun n hn => by
    have hn' : n < ρ'.r.length := Nat.lt_of_lt_of_le hn x.le
    rcases x.old n hn with z | z
    · exact .inl (by rw [← z]; exact List.getElem?_append_left hn')
    · exact .inr (by rw [← z]; exact List.getElem?_append_left hn'), fun n a hn e => by
    rcases get_snoc e with z | ⟨_, z⟩
    · exact x.new n a hn z
    · cases z; exact hp, x.keep, x.dom, x.hid⟩

/-! ### a display -/
def mpairs : List (M D × M D) → M (List (D × D))
  | [] => fun _ h => .ok [] h
  | (a, b) :: r => fun env h => (a env h).bind fun x h1 => (b env h1).bind fun y h2 => (mpairs r env h2).bind fun xs h3 => .ok ((x, y) :: xs) h3
def keysP : List (D × D) → Option KVD
  | [] => some []
  | (k, v) :: r => match keyOf k with
    | some q => (keysP r).map ((q, v) :: ·)
    | none => none
def mdisp (m : Bool) (l : List (M D × M D)) : M D := fun env h => (mpairs l env h).bind fun xs h1 => finD m (if xs.length ≤ 15 then (keysP xs).map (mergeP []) else none) h1
def PRel (C : Ctx) (ρ : Rho) (H : Hp) : List (D × D) → List (V × V) → Prop := Paired fun p q => Rel C ρ H p.1 q.1 ∧ Rel C ρ H p.2 q.2
theorem PRel.ext {xs : List (D × D)} {ps : List (V × V)} (x : Ext ρ ρ' H H') (r : PRel C ρ H xs ps) : PRel C ρ' H' xs ps := Paired.mapP r fun _ _ z => ⟨Rel.ext x _ _ z.1, Rel.ext x _ _ z.2⟩
theorem keys_rel : ∀ {xs : List (D × D)} {ps : List (V × V)} {kvs : KVD}, keysP xs = some kvs → PRel C ρ H xs ps → ∃ vvs : List (Key × V), ps = vvs.map (fun kv => (kV kv.1, kv.2)) ∧ KVR C ρ H kvs vvs ∧ vvs.length = xs.length
  | [], ps, kvs, e, r => by
    cases r
    cases e
    exact ⟨[], rfl, .nil, rfl⟩
  | (k, v) :: xs, ps, kvs, e, r => by
    unfold keysP at e
    split at e
    · rename_i key ek
      cases ep : keysP xs with
      | none => rw [ep] at e; cases e
      | some more =>
        rw [ep] at e
        simp only [Option.map_some, Option.some.injEq] at e; subst e
        cases r with
        | @cons _ q _ qs h t =>
        obtain ⟨vvs, rfl, h2, h3⟩ := keys_rel ep t
        obtain ⟨y, z⟩ := q
        refine ⟨(key, z) :: vvs, ?_, .cons ⟨rfl, h.2⟩ h2, by simp [h3]⟩
        rw [List.map_cons]
        have := key_of h.1 ek
        dsimp only at this
        rw [this]
    · cases e
def trsOf (C : Ctx) (W : WX) (l : List (M D × M D)) : List (TE × TE) := l.map fun p => (tE C W p.1, tE C W p.2)
theorem seq_pairs : ∀ {l : List (M D × M D)} {ρ : Rho} {H : Hp} {hd : Hd} {Q' : List (V × V) → Hp → Prop}, EnvRel C ρ H env σ → SimH C ρ H hd → PostX C (PRel C) ρ H (fun c d H' => W c d σ H') Q' (mpairs l env hd) → tPairs (trsOf C W l) σ H Q'
  | [], ρ, H, hd, Q', er, sh, p => p ρ H [] Ext.refl sh .nil
  | (a, b) :: r, ρ, H, hd, Q', er, sh, p => by
    unfold mpairs at p
    refine seqE er sh p fun v H1 ρ1 hd1 x x1 er1 sh1 r1 p1 => seqE er1 sh1 p1 fun w H2 ρ2 hd2 y x2 er2 sh2 r2 p2 => seq_pairs (l := r) er2 sh2 ?_
    cases e : mpairs r env hd2 with
    | bad => rw [e] at p2; exact p2
    | exc z h => rw [e] at p2; exact p2
    | ok xs h =>
      rw [e] at p2
      exact fun ρ3 H3 ps x3 s3 r3 => p2 ρ3 H3 ((v, w) :: ps) x3 s3 (.cons ⟨Rel.ext (x2.trans x3) _ _ r1, Rel.ext x3 _ _ r2⟩ r3)
theorem PostX.disp {m : Bool} {l : List (M D × M D)} {Q : VK} {q : Addr} (sh : SimH C ρ H hd) (hq : H q = none) (p : PostX C (Rel C) ρ H (fun c d H' => W c d σ H') Q (mdisp m l env hd)) :
    PostX C (PRel C) (ρ.hide q) (upd H q (.dK [])) (fun c d H' => W c d σ H') (fun ps H2 => H2 q = some (.dK []) ∧ ∃ kvs : List (Key × V), ps = kvs.map (fun kv => (kV kv.1, kv.2)) ∧ kvs.length ≤ 15 ∧ Q (.ref q) (upd H2 q (.dK (mergeK [] kvs)))) (mpairs l env hd) := by
  have hqh : q ∉ ρ.hid := fun z => sh.hidS q z hq
  have un : ∀ {ρ5 : Rho} {H5 : Hp}, Ext (ρ.hide q) ρ5 (upd H q (.dK [])) H5 → ∃ ρ6 : Rho, ρ5 = ρ6.hide q ∧ Ext ρ ρ6 H H5 ∧ ρ6.hid = ρ.hid := fun {ρ5 H5} x5 => by
    refine ⟨⟨ρ5.r, ρ.hid⟩, ?_, (Ext.upd_new hq).trans x5.unhide, rfl⟩
    have := x5.hid
    cases ρ5
    simp only at this
    rw [this]
  unfold mdisp at p
  cases e : mpairs l env hd with
  | bad => rw [e] at p; exact p
  | exc z h =>
    rw [e] at p
    intro ρ5 H5 dd x5 s5 r5
    obtain ⟨ρ6, rfl, xe, _⟩ := un x5
    obtain ⟨A, vs, e1, e2, e3, e4⟩ := r5
    exact p ρ6 H5 dd xe s5.unhide ⟨A, vs, e1, e2, e3, RelL.keeps Keeps.unhide _ _ e4⟩
  | ok xs h =>
    rw [e] at p
    rw [Res.bind_ok] at p
    intro ρ5 H5 ps x5 s5 r5
    obtain ⟨ρ6, rfl, xe, eh⟩ := un x5
    have hur : Unr ρ6 q := fun n z => s5.apart n q z List.mem_cons_self
    have eq5 : H5 q = some (.dK []) := x5.keep q _ upd_same (fun n z => (sh.unm hq).1 n z)
    split at p
    · rename_i hl
      cases ek : keysP xs with
      | none => rw [ek] at p; exact p.elim
      | some kvs =>
        rw [ek] at p
        obtain ⟨vvs, rfl, kr, kl⟩ := keys_rel ek r5
        refine ⟨eq5, vvs, rfl, by omega, ?_⟩
        have s6 : SimH C (ρ6.hide q) (upd H5 q (.dK (mergeK [] vvs))) h := s5.grow
        have mr : KVR C (ρ6.hide q) (upd H5 q (.dK (mergeK [] vvs))) (mergeP [] kvs) (mergeK [] vvs) := (KVR.merge kr .nil).keeps Keeps.grow
        obtain ⟨rl, ez⟩ := mr.to
        have xg := xe.grow (o := .dK (mergeK [] vvs)) hq
        cases m with
        | true =>
          refine p (ρ6.push q) _ _ (xg.showP hq) (s6.showO (by rw [eh]; exact hqh) hur ⟨(mergeK [] vvs).map (·.2), ?_, rl, by simp⟩) (rel_new s6.unhide)
          rw [ez, upd_same]
        | false =>
          refine p ρ6 _ _ xg s6.unhide ?_
          simp only [Rel]
          refine ⟨q, (mergeK [] vvs).map (·.2), rfl, ⟨?_, hur, by rw [eh]; exact hqh⟩, RelL.keeps Keeps.unhide _ _ rl, by simp⟩
          rw [ez, upd_same]
    · exact p.elim
structure DispOk (X : Cx) (C : Ctx) (W : WX) (pos : Pos) (keys : List (Option Expr)) (values : List Expr) (l : List (M D × M D)) : Prop where
  pps : PPs X pos keys values (trsOf C W l)
theorem dsp_nil : DispOk X C W pos [] [] [] := ⟨pps_nil⟩
theorem dsp_cons {ks : List (Option Expr)} {vs : List Expr} {l : List (M D × M D)} (ha : PE X a (tE C W ma)) (hb : PE X b (tE C W mb)) (r : DispOk X C W pos ks vs l) : DispOk X C W pos (some a :: ks) (b :: vs) ((ma, mb) :: l) := ⟨pps_cons ha hb r.pps⟩
theorem ev_disp {m : Bool} {ks : List (Option Expr)} {vs : List Expr} {l : List (M D × M D)} (d : DispOk X C W pos ks vs l) (hall : ks.all (·.isSome) = true) (hl : (ks.length == vs.length) = true) (h0 : (!ks.isEmpty) = true) (h15 : decide (ks.length ≤ 15) = true) : PE X (.Dict ks vs pos) (tE C W (mdisp m l)) :=
  weakE (pe_disp d.pps hall (by simpa using hl) (by cases ks with | nil => cases h0 | cons => exact fun z => nomatch z) (of_decide_eq_true h15)) fun σ H Q ⟨ρ, env, hd, er, sh, p⟩ q hq =>
    seq_pairs (er.keeps (Keeps.hide hq)) (sh.hide hq) (PostX.disp sh hq p)

/-! ### d[k], k in d -/
def mdg (o e : M D) : M D := fun env h => (o env h).bind fun d h1 => (e env h1).bind fun k h2 => match dicOf d h2, keyOf k with
  | some (ks, xs), some q => (match valD ks xs q with | some x => .ok x h2 | none => .bad)
  | _, _ => .bad
theorem seq_dg {Q : VK} (h : tE C W (mdg mo me) σ H Q) : tDGet (tE C W mo) (tE C W me) σ H Q := by
  obtain ⟨ρ, env, hd, er, sh, p⟩ := h
  refine seqE er sh p fun v H1 ρ1 hd1 d x er1 sh1 r1 p1 => seqE er1 sh1 p1 fun y H2 ρ2 hd2 k x2 er2 sh2 r2 p2 => ?_
  split at p2
  · rename_i ks xs q e1 ek
    obtain ⟨A, vs, rfl, t, rl, hz⟩ := dic_of sh2 (Rel.ext x2 _ _ r1) e1
    split at p2
    · rename_i z ez
      obtain ⟨w, ew, rw_⟩ := (val_of q rl hz).1 z ez
      refine ⟨A, w, rfl, ?_, p2.here sh2 rw_⟩
      rw [key_of r2 ek, ← ew]
      exact DGet.k t
    · exact p2.elim
  · exact p2.elim
theorem ev_mixd (hK : X.K = C.K) (hu : X.A.units + 64 < cLine) (ho : PE X o (tE C W mo)) (he : PE X e (tE C W me)) (hs : PlainIx e) : PE X (.Subscript o e pos) (tE C W (mixd mo me)) := by
  refine weakE (orE (pe_ix (ix_ok hK) ho he hs) (pe_dget (by omega) ho he hs)) fun σ H Q ⟨ρ, env, hd, er, sh, p⟩ => ?_
  have key : mixd mo me env hd = mop2 false oIx mo me env hd ∨ mixd mo me env hd = mdg mo me env hd := by
    unfold mixd mop2 mdg
    cases mo env hd with
    | bad => exact .inl rfl
    | exc _ _ => exact .inl rfl
    | ok d h1 =>
      simp only [Res.bind_ok]
      cases me env h1 with
      | bad => exact .inl rfl
      | exc _ _ => exact .inl rfl
      | ok k h2 =>
        simp only [Res.bind_ok]
        cases dicOf d h2 with
        | none => exact .inl rfl
        | some kx =>
          obtain ⟨ks, xs⟩ := kx
          cases keyOf k with
          | none => exact .inl rfl
          | some q => exact .inr rfl
  rcases key with q | q
  · rw [q] at p; exact .inl (seq_op2 ⟨ρ, env, hd, er, sh, p⟩)
  · rw [q] at p; exact .inr (seq_dg ⟨ρ, env, hd, er, sh, p⟩)
/-- k in d (n: not in) -/
def mindG (n : Bool) (a b : M D) : M D := fun env h => (a env h).bind fun k h1 => (b env h1).bind fun d h2 => match dicOf d h2, keyOf k with
  | some (ks, xs), some q => .ok (.bl (n != (valD ks xs q).isSome)) h2
  | _, _ => .bad
def mind (n : Bool) (f : Op2) (a b : M D) : M D := fun env h => (a env h).bind fun k h1 => (b env h1).bind fun d h2 => match dicOf d h2, keyOf k with
  | some (ks, xs), some q => .ok (.bl (n != (valD ks xs q).isSome)) h2
  | _, _ => fin false (f k d h2) h2
theorem mind_or (n : Bool) (f : Op2) (env : Env) (hd : Hd) : mind n f ma mb env hd = mop2 false f ma mb env hd ∨ mind n f ma mb env hd = mindG n ma mb env hd := by
  unfold mind mop2 mindG
  cases ma env hd with
  | bad => exact .inl rfl
  | exc _ _ => exact .inl rfl
  | ok d h1 =>
    simp only [Res.bind_ok]
    cases mb env h1 with
    | bad => exact .inl rfl
    | exc _ _ => exact .inl rfl
    | ok k h2 =>
      simp only [Res.bind_ok]
      cases dicOf k h2 with
      | none => exact .inl rfl
      | some kx =>
        obtain ⟨ks, xs⟩ := kx
        cases keyOf d with
        | none => exact .inl rfl
        | some q => exact .inr rfl
theorem seq_ind {n : Bool} {Q : VK} (h : tE C W (mindG n ma mb) σ H Q) : tE C W ma σ H fun y H1 => tE C W mb σ H1 fun x H2 => ∃ A o, x = .ref A ∧ DGet H2 A y o ∧ Q (.bl (n != o.isSome)) H2 := by
  obtain ⟨ρ, env, hd, er, sh, p⟩ := h
  refine seqE er sh p fun v H1 ρ1 hd1 k x er1 sh1 r1 p1 => seqE er1 sh1 p1 fun y H2 ρ2 hd2 d x2 er2 sh2 r2 p2 => ?_
  split at p2
  · rename_i ks xs q e1 ek
    obtain ⟨A, vs, rfl, t, rl, hz⟩ := dic_of sh2 r2 e1
    refine ⟨A, valV (ks.zip vs) q, rfl, ?_, ?_⟩
    · rw [key_of (Rel.ext x2 _ _ r1) ek]; exact DGet.k t
    · have hh := val_of q rl hz
      have : (valD ks xs q).isSome = (valV (ks.zip vs) q).isSome := by
        cases ev : valD ks xs q with
        | none => rw [hh.2 ev]; rfl
        | some z => obtain ⟨w, ew, _⟩ := hh.1 z ev; rw [ew]; rfl
      rw [← this]
      exact p2.here sh2 rel_bl
  · exact p2.elim
theorem ev_in (hK : X.K = C.K) (hu : X.A.units + 64 < cLine) (ha : PE X a (tE C W ma)) (hb : PE X b (tE C W mb)) (hm : behindInMarks .In b = false) : PE X (.Compare a [.In] [b] pos) (tE C W (mind false oIn ma mb)) :=
  weakE (orE (pe_cmpR (ops_in hK) ha hb hm) (pe_cmp (pc_din (by omega) ha hb) hm)) fun σ H Q ⟨ρ, env, hd, er, sh, p⟩ => by
    rcases mind_or (ma := ma) (mb := mb) false oIn env hd with q | q
    · rw [q] at p; exact .inl (seq_op2 ⟨ρ, env, hd, er, sh, p⟩)
    · rw [q] at p
      have := seq_ind (n := false) (ma := ma) (mb := mb) ⟨ρ, env, hd, er, sh, p⟩
      simp only [Bool.false_bne] at this
      exact .inr this
theorem ev_notIn (hK : X.K = C.K) (hu : X.A.units + 64 < cLine) (ha : PE X a (tE C W ma)) (hb : PE X b (tE C W mb)) (hm : behindInMarks .NotIn b = false) : PE X (.Compare a [.NotIn] [b] pos) (tE C W (mind true oNotIn ma mb)) :=
  weakE (orE (pe_cmpR (ops_notIn hK) ha hb hm) (pe_cmp (pc_dnotin (by omega) ha hb) hm)) fun σ H Q ⟨ρ, env, hd, er, sh, p⟩ => by
    rcases mind_or (ma := ma) (mb := mb) true oNotIn env hd with q | q
    · rw [q] at p; exact .inl (seq_op2 ⟨ρ, env, hd, er, sh, p⟩)
    · rw [q] at p
      have := seq_ind (n := true) (ma := ma) (mb := mb) ⟨ρ, env, hd, er, sh, p⟩
      simp only [Bool.true_bne] at this
      exact .inr this
theorem bl_split {f : Op2} {g : M D} {σ : L2.St} {H : Hp} {Q : Bool → Hp → Prop} (h : tT C W (mbl g) σ H Q) : tE C W g σ H fun x H1 => ∃ k, x = .bl k ∧ Q k H1 := bl_of h
theorem evt_in (hK : X.K = C.K) (hu : X.A.units + 64 < cLine) (ha : PE X a (tE C W ma)) (hb : PE X b (tE C W mb)) (hm : behindInMarks .In b = false) : PT X (.Compare a [.In] [b] pos) (tT C W (mbl (mind false oIn ma mb))) :=
  weakT (orT (pt_cmpR (ops_in hK) ha hb hm) (pt_cmp (pc_din (by omega) ha hb) hm)) fun σ H Q h => by
    have h' := bl_of h
    obtain ⟨ρ, env, hd, er, sh, p⟩ := h'
    rcases mind_or (ma := ma) (mb := mb) false oIn env hd with q | q
    · rw [q] at p; exact .inl (seq_op2 ⟨ρ, env, hd, er, sh, p⟩)
    · rw [q] at p
      have := seq_ind (n := false) (ma := ma) (mb := mb) ⟨ρ, env, hd, er, sh, p⟩
      simp only [Bool.false_bne] at this
      exact .inr this
theorem evt_notIn (hK : X.K = C.K) (hu : X.A.units + 64 < cLine) (ha : PE X a (tE C W ma)) (hb : PE X b (tE C W mb)) (hm : behindInMarks .NotIn b = false) : PT X (.Compare a [.NotIn] [b] pos) (tT C W (mbl (mind true oNotIn ma mb))) :=
  weakT (orT (pt_cmpR (ops_notIn hK) ha hb hm) (pt_cmp (pc_dnotin (by omega) ha hb) hm)) fun σ H Q h => by
    have h' := bl_of h
    obtain ⟨ρ, env, hd, er, sh, p⟩ := h'
    rcases mind_or (ma := ma) (mb := mb) true oNotIn env hd with q | q
    · rw [q] at p; exact .inl (seq_op2 ⟨ρ, env, hd, er, sh, p⟩)
    · rw [q] at p
      have := seq_ind (n := true) (ma := ma) (mb := mb) ⟨ρ, env, hd, er, sh, p⟩
      simp only [Bool.true_bne] at this
      exact .inr this

/-! ### d.update(pairs) -/
def fUpd : OpM
  | .ref n, [x], h => match h[n]? with
    | some (.dic ks ds) => (match lstOf x h with
      | some xs => (match pairsD xs with
        | some more => if ks.length + more.length ≤ sizeLine then some (.non, h.set n (.dic ((mergeP (ks.zip ds) more).map (·.1)) ((mergeP (ks.zip ds) more).map (·.2)))) else none
        | none => none)
      | none => none)
    | _ => none
  | _, _, _ => none
def isDic (d : D) (h : Hd) : Bool := (dicOf d h).isSome
theorem isDic_ty (ρ : RhoT) (H : Hp) (hd : Hd) (d : D) (v : V) (sh : SimH C ρ H hd) (r : Rel C ρ H d v) (h : isDic d hd = true) : tyV X.K "dict" v H := by
  unfold isDic at h
  cases q : dicOf d hd with
  | none => rw [q] at h; cases h
  | some kx =>
    obtain ⟨ks, xs⟩ := kx
    obtain ⟨A, vs, rfl, t, _⟩ := dic_of sh r q
    exact .inr (.inr (.inl ⟨rfl, .inl ⟨_, t⟩⟩))
theorem ref_dic {n : Nat} {ks : List Key} {xs : List D} {v : V} (sh : SimH C ρ H hd) (r : Rel C ρ H (.ref n) v) (h : hd[n]? = some (.dic ks xs)) : ∃ a vs, v = .ref a ∧ ρ.r[n]? = some (some a) ∧ H a = some (.dK (ks.zip vs)) ∧ RelL C ρ H xs vs ∧ ks.length = xs.length := by
  simp only [Rel] at r
  obtain ⟨A, rfl, f⟩ := r
  rcases f with f | f
  · obtain ⟨o, h1, h2⟩ := sh.at_ n A f
    rw [h] at h1; cases h1
    obtain ⟨vs, t, rl, z⟩ := h2
    exact ⟨A, vs, rfl, f, t, rl, z⟩
  · cases sh.live n _ h f
theorem keys_placed {h : Heap} : ∀ {Ts : List Addr} {prs : List (Key × Value)}, prs.length = Ts.length → (∀ (j : Nat) (q : Key × Value), prs[j]? = some q → ∃ (b : Addr) (u : Value), Ts[j]? = some b ∧ IsTup h b #[u, q.2] ∧ keyIs q.1 u = true) →
    ∃ kys : List Value, kys.length = prs.length ∧ ∀ (j : Nat) (q : Key × Value), prs[j]? = some q → ∃ (b : Addr) (u : Value), Ts[j]? = some b ∧ kys[j]? = some u ∧ IsTup h b #[u, q.2] ∧ keyIs q.1 u = true
  | [], [], _, _ => ⟨[], rfl, fun j q e => by simp at e⟩
  | [], _ :: _, hl, _ => by cases hl
  | _ :: _, [], hl, _ => by cases hl
  | b :: bs, q0 :: qs, hl, hpr => by
    obtain ⟨b0, u0, h1, h2, h3⟩ := hpr 0 q0 rfl
    obtain rfl : b = b0 := by simpa using h1
    obtain ⟨kys, h4, h5⟩ := keys_placed (Ts := bs) (prs := qs) (Nat.succ.inj hl) fun j q e => by
      obtain ⟨b1, u1, g1, g2, g3⟩ := hpr (j + 1) q (by simpa using e)
      exact ⟨b1, u1, by simpa using g1, g2, g3⟩
    refine ⟨u0 :: kys, by simp [h4], fun j q e => ?_⟩
    cases j with
    | zero =>
      obtain rfl : q0 = q := by simpa using e
      exact ⟨b, u0, rfl, rfl, h2, h3⟩
    | succ j =>
      obtain ⟨b1, u1, g1, g2, g3, g4⟩ := h5 j q (by simpa using e)
      exact ⟨b1, u1, by simpa using g1, by simpa using g2, g3, g4⟩
theorem mt_upd (hK : X.K = C.K) (hc : X.calm = true) : MtR X "dict.update" (rOM C fUpd) := by
  intro pins s σ H x xs v us Q I rx rs ⟨ρ, hd, dx, ds, sh, r1, rl, p⟩
  unfold fUpd at p
  split at p
  · rename_i n y
    split at p
    · rename_i ks xd h
      split at p
      · rename_i ys ey
        split at p
        · rename_i more em
          split at p
          · rename_i hz
            obtain ⟨w, rfl, r2⟩ := relL1 rl
            obtain ⟨A, vs, rfl, f, t, rl2, zk⟩ := ref_dic sh r1 h
            obtain ⟨B, ws, rfl, t2, rl3, z3⟩ := lst_of sh r2 ey
            obtain ⟨Ts, mv, rfl, kr, pr⟩ := pairs_rel em rl3
            rw [← hK] at pr
            obtain rfl : v = Value.ref A := rx
            cases rs with
            | @cons _ u _ _ q1 q2 =>
            cases q2
            obtain rfl : u = Value.ref B := q1
            obtain ⟨its, rv, ⟨ob, n0, e1, e2, e3, e4⟩, hzl⟩ := I.list (.of t2)
            have ei := refs_at rv
            subst ei
            obtain ⟨prs, rel, hl, hpr⟩ := pairs_of I pr
            obtain ⟨zd, lo, vs0, rel0, dd⟩ := dk_of I.hok t
            have hm1 : more.length = mv.length := kr.len
            have hm2 : mv.length = prs.length := rel.length
            have hkv : (ks.zip vs).length = vs0.length := rel0.length
            have hkz : (ks.zip vs).length ≤ ks.length := by rw [List.length_zip]; exact Nat.min_le_left _ _
            -- the pairs at their places
            obtain ⟨kys, hk1, hk2⟩ := keys_placed hl hpr
            let Tf : Nat → Addr := fun j => Ts.getD j 0
            let ps := kys.zip (prs.map (·.2))
            have hps : ps.length = prs.length := by show (kys.zip (prs.map (·.2))).length = _; rw [List.length_zip, List.length_map, hk1, Nat.min_self]
            have pq : ∀ j k x, ps[j]? = some (k, x) → ∃ q, prs[j]? = some (q, x) ∧ kys[j]? = some k := fun j k x e => by
              have e' := List.getElem?_zip_eq_some.mp e
              have e2 := e'.2
              rw [List.getElem?_map] at e2
              cases eq : prs[j]? with
              | none => rw [eq] at e2; cases e2
              | some q => rw [eq] at e2; cases e2; exact ⟨q.1, eq, e'.1⟩
            have pi : PairItems s.heap (Ts.map Value.ref).toArray Tf ps := by
              refine ⟨by rw [List.size_toArray, List.length_map, hps, ← hl], fun j k x e => ?_⟩
              obtain ⟨q, g1, g2⟩ := pq j k x e
              obtain ⟨b, u, f1, f2, f3, f4⟩ := hk2 j _ g1
              rw [g2] at f2; cases f2
              have eT : Tf j = b := by show Ts.getD j 0 = b; rw [List.getD_eq_getElem?_getD, f1]; rfl
              rw [eT]
              exact ⟨by simp [f1], .inl f3⟩
            have ph : PairsHave (mixKind X.prog X.w) ps.length (PairRel ps) prs := by
              refine ⟨hps.symm, fun j k x e => ?_⟩
              obtain ⟨q, g1, g2⟩ := pq j k x e
              obtain ⟨b, u, f1, f2, f3, f4⟩ := hk2 j _ g1
              rw [g2] at f2; cases f2
              exact ⟨q, g1, f4⟩
            refine PySem.call_update_pairs (knd := mixKind X.prog X.w) (PairArg.list B (Ts.map Value.ref).toArray Tf ps) (I.ok.hd hc) ⟨⟨ob, n0, e1, e2, e3, e4⟩, pi⟩ ?_ ph dd (by rw [hps]; omega) fun h' tk dd' k' => ?_
            · intro hmem
              rcases List.mem_cons.mp hmem with z | z
              · rw [z] at t; rw [t] at t2; cases t2
              · obtain ⟨j, hj, ej⟩ := List.mem_map.mp z
                have hj' := List.mem_range.mp hj
                obtain ⟨q, eq⟩ : ∃ q, prs[j]? = some q := ⟨prs[j]'(by omega), List.getElem?_eq_getElem (by omega)⟩
                obtain ⟨b, u, f1, f2, ⟨o1, g1, g2, g3⟩, f4⟩ := hk2 j q eq
                have eT : Tf j = b := by show Ts.getD j 0 = b; rw [List.getD_eq_getElem?_getD, f1]; rfl
                rw [eT] at ej
                obtain ⟨o2, es, ep, h1, h2, _⟩ := dd
                rw [← ej, g1] at h1; cases h1
                rw [h2.1] at g2
                exact absurd (Value.type.inj g2) (by decide)
            · have mr : KVR C ρ H (mergeP (ks.zip xd) more) (mergeK (ks.zip vs) mv) := KVR.merge kr (KVR.of rl2 zk)
              obtain ⟨rlm, ezm⟩ := mr.to
              have J : Inv X pins σ (upd H A (.dK (mergeK (ks.zip vs) mv))) { s with heap := h', toks := tk } := by
                refine I.write (x := A) (e := A) (by rw [t]; exact True.intro) (.inl rfl) (fun b q hb z => k' b q hb (fun hm => nomatch hm) z) (let ⟨q, _, _, hq, _⟩ := dd'; ⟨q, hq⟩) ?_
                refine dk_new ?_ lo (KV.merge rel rel0) dd'
                have := length_mergeK mv (ks.zip vs)
                omega
              refine ⟨.non, _, J, rfl, p _ _ (Ext.store f t) (sh.storeO f t ⟨(mergeK (ks.zip vs) mv).map (·.2), ?_, rlm, by simp⟩) rel_non⟩
              rw [ezm]
          · exact p.elim
        · exact p.elim
      · exact p.elim
    · exact p.elim
  · exact p.elim
theorem ev_update (hK : X.K = C.K) (hc : X.calm = true) (ho : PE X o (tE C W mo)) (ha : PE X e (tE C W me)) (hb : baseOk o = true) (hs : notStar e = true) (hl : (apos.endLine == cpos.line) = true) :
    PE X (.Call (.Attribute o "update" apos) [e] [] cpos) (tE C W (mmeth isDic fUpd mo (mcons me mnil))) :=
  ev_meth1 PySem.F.plainAttrs_dict PySem.F.slot_dict_update PySem.F.type_dict_update (mt_upd hK hc) isDic_ty ho (evl_cons ha evl_nil hs) hb hs hl
end
end EV


/-! EvAA: a local name that holds a def; list(text); a tuple stored in a tuple of targets. -/
namespace EV
open PySem PySem.Spec PyProof.Rows L2
section
variable {X : Cx} {C : Ctx} {W : WX} {CX : CXT} {k j n i : Nat} {ρ ρ' : Rho} {H H' : Hp} {hd : Hd} {σ : L2.St} {env : Env} {p apos cpos pos p1 p2 p3 q1 q2 q3 : Pos} {a b o e f : Expr} {es : List Expr} {ma mb mo me mf : M D} {ms : M (List D)} {x : Str} {sa : MS}
/-! ### work(a, ..), work a local name -/
structure LocOk (C : Ctx) (P : Program) (w : World) (mg : Str → Option Value) (base : Heap) (CX : CXT) (k : Nat) (j : Nat) (n : Nat) (F : FunT) : Prop where
  ex : ∃ (f : Addr) (fd : FuncData) (ps : List Str), C.fa j = f ∧ PySem.W.keepIn C.K (.ref f) = true ∧ FnG P w C.K mg base CX k f fd ps (spM C n F) ∧ Binds C.K fd ps []
theorem LocOk.of {P : Program} {w : World} {mg : Str → Option Value} {base : Heap} {F : FunT} (c : CallOk C P w mg base CX k x n F []) (h : mg x = some (.ref (C.fa j))) : LocOk C P w mg base CX k j n F := by
  obtain ⟨f, fd, ps, dvs, ds, e1, e2, G, b, v, r⟩ := c.ex
  have hd := r ⟨[], []⟩ fun _ => none
  simp only [RelL] at hd
  subst hd
  rw [h] at e1
  cases e1
  cases v
  exact ⟨_, fd, ps, rfl, e2, G, b⟩
theorem CallOk.weak {P : Program} {w : World} {mg : Str → Option Value} {base : Heap} {F : FunT} {dd : List D} (c : CallOk C P w mg base CX j x n F dd) (h : j ≤ k) : CallOk C P w mg base CX k x n F dd := by
  obtain ⟨f, fd, ps, dvs, ds, e1, e2, G, b, v, r⟩ := c.ex
  exact ⟨f, fd, ps, dvs, ds, e1, e2, G.weak h, b, v, r⟩
/-- a def as a value -/
structure FVal (C : Ctx) (mg : Str → Option Value) (x : Str) (j : Nat) : Prop where
  at_ : mg x = some (.ref (C.fa j))
theorem FVal.val {mg : Str → Option Value} (f : FVal C mg x j) : GVal C mg x (.fn j) := ⟨.ref (C.fa j), _, f.at_, rfl, fun _ _ => by simp only [Rel]⟩
def mcallL (i : Nat) (T : List (Nat × Nat × FunT)) (as : M (List D)) : M D := fun env h => match env[i]? with
  | some (some (.fn j)) => (match T.lookup j with
    | some (n, F) => (as env h).bind fun xs h1 => if xs.length = n then F xs h1 else .bad
    | none => .bad)
  | _ => .bad
def LocAll (C : Ctx) (P : Program) (w : World) (mg : Str → Option Value) (base : Heap) (CX : CXT) (k : Nat) : List (Nat × Nat × FunT) → Prop
  | [] => True
  | (j, n, F) :: r => LocOk C P w mg base CX k j n F ∧ LocAll C P w mg base CX k r
theorem LocAll.get {P : Program} {w : World} {mg : Str → Option Value} {base : Heap} {F : FunT} : ∀ {T : List (Nat × Nat × FunT)}, LocAll C P w mg base CX k T → T.lookup j = some (n, F) → LocOk C P w mg base CX k j n F
  | [], _, e => by cases e
  | (j0, n0, F0) :: r, h, e => by
    rw [List.lookup_cons] at e
    split at e
    · rename_i q
      have : j = j0 := by simpa using q
      subst this
      cases e
      exact h.1
    · exact LocAll.get h.2 e
theorem ev_callL {T : List (Nat × Nat × FunT)} (hK : X.K = C.K) (G : LocAll C X.prog X.w X.mg X.base CX j T) (hr : RoomG k X.A) (hj : decide (j ≤ k) = true) (hN : X.N[i]? = some x) (hv : Vis X.env.scope x) (hx : ∀ σ, PassesAt CX X σ fun c d H => W c d σ H) (ha : PA X (e :: es) (tL C W ms))
    (hdb : (x == ("__debug__" : Str)) = false) (hcd : (x == ("__classdict__" : Str)) = false) (hs : noStars (e :: es) = true) : PE X (.Call (.Name x p) (e :: es) [] pos) (tE C W (mcallL i T ms)) := by
  refine ⟨fun pins s σ H Q I ⟨ρ, env, hd, er, sh, pp⟩ => ?_⟩
  unfold mcallL at pp
  split at pp
  · rename_i jj e0
    split at pp
    · rename_i n0 F0 eT
      obtain ⟨f, fd, ps, e1, e2, FG, b⟩ := (G.get eT).ex
      obtain ⟨v, e3, r⟩ := er.at_ i _ e0
      simp only [Rel] at r
      subst r
      rw [e1] at e3
      rw [← hK] at e2 FG b
      have hs' : notStar e = true ∧ noStars es = true := by unfold noStars at hs; rwa [Bool.and_eq_true] at hs
      refine wpAny_Call_Name_kw (thn ((pe_var (pos := p) hN hv hdb hcd).run pins s σ H (fun v H1 => v = .ref f ∧ H1 = H) I ⟨.ref f, e3, rfl, rfl⟩) fun u s1 ⟨v, H1, I1, r1, q1⟩ => ?_)
      obtain ⟨rfl, rfl⟩ := q1
      cases r1
      have t : tL C W ms σ _ (fun vs H1 => spM C n0 F0 (vs ++ []) H1 Q fun c d H => W c d σ H) := seqL er sh pp fun vs H1 ρ1 hd1 ds x er1 sh1 r1 p1 => by
        split at p1
        · rename_i hl
          rw [List.append_nil]
          exact ⟨r1.length.symm.trans hl, ρ1, hd1, _, sh1, r1, p1⟩
        · exact p1.elim
      exact PySem.W.callWith_K (h₀ := X.base) I.ok.mod.kin e2 (thn (ha.run pos pins s1 σ _ _ I1 t) fun us s2 ⟨vs, H2, I2, rr, q⟩ => ⟨I2.kIn, run_fnG FG (hr.weak (of_decide_eq_true hj)) b .nil (hx σ) I2 rr q⟩) (starEach_at hs'.1) (plain_of hs'.2)
    · exact pp.elim
  · exact pp.elim

/-! ### a tuple to a tuple of targets that is not swapped -/
theorem evs_asgT {tg : Expr} {sl : List Nat} {g : MG} (he : PE X e (tE C W ma)) (hg : PG X tg (tG C sl g)) (hw : swappedStores [tg] e X.env = pure none) (hs : swapsWithSole [tg] e pos.line X.env = pure false) (h2 : notStar tg = true) : PS X (.Assign [tg] e pos) (tS C W (sAsg ma g)) :=
  weakS (ps_asg he hg hs hw (assign_at h2)) fun Z σ H ⟨ρ, env, hd, er, sh, p⟩ => go_asg er sh p

/-! ### list(text) -/
theorem call_list_text {prog : Program} {w : World} {A : Around} {E : Value → Shared → Prop} {s : Shared} {z : Str} {t : Tok} {Q : Value → Shared → Prop} (hh : A.handled = none) (hn : z.cps.size ≤ sizeLine)
    (hQ : ∀ h' tk acc c, (∀ b o, s.heap.get? b = some o → h'.get? b = some o) → h'.get? s.heap.objs.size = some { cls := .type "list", dict := none, data := .seq acc c, slots := #[] } → ItemsOf (SignAt z) acc z.cps.size → Q (.ref s.heap.objs.size) { s with heap := h', toks := tk }) :
    wpAny (model prog w) A (call (.type "list") [.str z t]) Q E s := by
  let S := s.heap.objs.size
  have lt : ∀ {b o}, s.heap.get? b = some o → S ≠ b := fun e => Nat.ne_of_gt (Heap.lt_size e)
  refine callType_codes (Q₁ := fun obj s1 => obj = .ref S ∧ s1 = { s with heap := s.heap.push { cls := .type "list", data := .seq #[] } }) F.called_list (F.typeCall_list_1 _) F.entry_list_init (code_list_new _ ⟨rfl, rfl⟩) fun obj s1 h1 => ?_
  obtain ⟨rfl, rfl⟩ := h1
  have g0 : (s.heap.push { cls := .type "list", data := .seq #[] }).get? S = some { cls := .type "list", data := .seq #[] } := Heap.get?_push_size _ rfl
  have k0 : ∀ b o, s.heap.get? b = some o → (s.heap.push { cls := .type "list", data := .seq #[] }).get? b = some o := fun b o e => Heap.get?_push_of_some _ e
  refine ⟨⟨_, g0, rfl⟩, F.args_list_init_2 _ _, ?_⟩
  show wpAny _ _ (do let old ← Builtin.List.listItems (.ref S); Builtin.List.listUpdate (.ref S) (fun _ => #[]); letGo old.toList.reverse; Builtin.List.listExtendWith (.ref S) (.str z t) .none) _ _ _
  refine wpAny_bind ?_; unfold Builtin.List.listItems
  refine wpAny_bind (wpAny_seqItems g0 rfl (wpAny_pure ?_))
  show wpAny _ _ (updateSeq S (fun _ => #[]) >>= fun _ => letGo (#[] : Array Value).toList.reverse >>= fun _ => Builtin.List.listExtendWith (.ref S) (.str z t) .none) _ _ _
  refine wpAny_bind (wpAny_updateSeq g0 rfl ?_)
  have g1 := Heap.get?_update_self (Obj.mapSeq (fun _ => (#[] : Array Value))) g0 rfl
  have upk : ∀ (h : Heap) (f : Obj → Obj), (∀ b o, s.heap.get? b = some o → h.get? b = some o) → ∀ b o, s.heap.get? b = some o → (h.update S f).get? b = some o := fun h f q b o e => (Heap.get?_update_other _ _ (lt e)).trans (q b o e)
  have k1 := upk _ (Obj.mapSeq (fun _ => (#[] : Array Value))) k0
  refine wpAny_bind (wpAny_letGo ?_)
  generalize s.heap.push { cls := .type "list", data := .seq #[] } = h0 at g0 g1 k1
  generalize hg : h0.update S (Obj.mapSeq (fun _ => (#[] : Array Value))) = h1 at g1 k1
  show wpAny _ A.in1.in1 _ _ _ ⟨h1, s.gens, s.drawn, s.toks, s.os⟩
  unfold Builtin.List.listExtendWith
  refine wpAny_bind (wpAny_typeOf (T := "str") (v := .str z t) rfl ?_)
  have e1 : Builtin.List.listSameRef (.ref S) (.str z t) = false := rfl
  have e2 : (Value.type "str" == Value.type "list") = false := by decide
  have e3 : (Value.type "str" == Value.type "tuple") = false := by decide
  simp only [e1, e2, e3, Bool.or_false, Bool.false_eq_true, if_false]
  refine wpAny_bind (wpAny_pyIter_str fun o St Wk hst => ?_)
  refine wpAny_bind (wpAny_holding ?_)
  unfold Builtin.List.listLengthHint
  refine wpAny_bind (wpAny_specialOf (T := "str") (v := .str z t) rfl F.str_len ?_)
  wp_delta
  refine wpAny_bind (wpAny_isInstance (T := "str") (v := .str z t) (b := true) rfl (by rw [isSubtype_type]; kernel_rfl) ?_)
  show wpAny _ _ (typeOf (Value.str z t) >>= _) _ _ _
  refine wpAny_bind (wpAny_typeOf (T := "str") (v := .str z t) rfl (wpAny_pure ?_))
  rw [if_neg (by decide)]
  have hS1 : S < h1.objs.size := Heap.lt_size g1
  have hSf : S ∉ [h1.objs.size] := fun hm => by rw [List.mem_singleton.mp hm] at hS1; exact Nat.lt_irrefl _ hS1
  have g2 : (h1.push o).get? S = some { cls := .type "list", data := .seq (#[] : Array Value), slots := #[] } := Heap.get?_push_of_some _ g1
  refine wpAny_pure ⟨plainId_quiet F.plain_extend_loop _, codeAny_extend_loopS (A := A.in1) (Wk A.in1.in1 hh).toS hn _ hSf _ z.cps.size 0 _ _ _ rfl (Nat.zero_le _) hst g2 (ItemsOf.nil _) fun s' acc c hm hS' hacc => ?_⟩
  rw [Moved.eq_with hm]
  refine ⟨rfl, hQ s'.heap s'.toks acc c (fun b ob q => hm.heap b ob (fun hb => ?_) (Heap.get?_push_of_some _ (k1 b ob q))) hS' hacc⟩
  rcases List.mem_cons.mp hb with h | h
  · exact lt q h.symm
  · rw [List.mem_singleton.mp h] at q
    have := Heap.lt_size q
    exact absurd this (Nat.not_lt.mpr (Nat.le_of_lt hS1))
def chars (z : Str) : List D := z.cps.toList.map fun c => .str ⟨#[c]⟩
def fListS : OpN
  | [.str z], _ => some (.new (chars z))
  | xs, h => fList xs h
theorem signs_vals {z : Str} {acc : Array Value} (h : ItemsOf (SignAt z) acc z.cps.size) : Vals (z.cps.toList.map fun c => V.str ⟨#[c]⟩) acc.toList := by
  obtain ⟨h1, h2⟩ := h
  have key : ∀ (l : List Nat) (us : List Value), us.length = l.length → (∀ (j : Nat) v, us[j]? = some v → ∃ c u, l[j]? = some c ∧ v = .str ⟨#[c]⟩ u) → Vals (l.map fun c => V.str ⟨#[c]⟩) us := by
    intro l
    induction l with
    | nil => intro us hl _; cases us with
      | nil => exact .nil
      | cons _ _ => cases hl
    | cons c l ih => intro us hl hp; cases us with
      | nil => cases hl
      | cons u us =>
        obtain ⟨c', t, e1, e2⟩ := hp 0 u rfl
        obtain rfl : c = c' := by simpa using e1
        subst e2
        exact .cons ⟨t, rfl⟩ (ih us (Nat.succ.inj hl) fun j v e => by
          obtain ⟨c2, t2, g1, g2⟩ := hp (j + 1) v (by simpa using e)
          exact ⟨c2, t2, by simpa using g1, g2⟩)
  exact key _ _ (by rw [Array.length_toList, Array.length_toList, h1]) fun j v e => by
    obtain ⟨c, u, e1, e2⟩ := h2 j v (by rw [← Array.getElem?_toList]; exact e)
    exact ⟨c, u, by rw [Array.getElem?_toList]; exact e1, e2⟩
theorem chars_rel {z : Str} : RelL C ρ H (chars z) (z.cps.toList.map fun c => V.str ⟨#[c]⟩) := by
  unfold chars
  induction z.cps.toList with
  | nil => exact RelL.nil
  | cons c l ih => exact RelL.cons (rel_str (by show (1 : Nat) ≤ sizeLine; rw [sizeLine_eq]; omega)) ih
theorem fn_listS (hK : X.K = C.K) (hc : X.calm = true) : CallR X (.type "list") (rON C fListS) := by
  intro pins s σ H xs us Q I r ⟨ρ, hd, ds, sh, rl, p⟩
  have plain : ∀ (h : fListS ds hd = fList ds hd), wpAny (model X.prog X.w) X.A (call (.type "list") us) (EP X pins σ Q) X.xe s := fun h => fn_list hK pins s σ H xs us Q I r ⟨ρ, hd, ds, sh, rl, h ▸ p⟩
  match ds, rl, p, plain with
  | [.str z], rl, p, _ =>
    obtain ⟨v, rfl, r1⟩ := relL1 rl
    obtain ⟨rfl, hz⟩ := of_str r1
    cases r with
    | @cons _ u _ _ q1 q2 =>
    cases q2
    obtain ⟨t, rfl⟩ := q1
    have hz' : z.cps.size ≤ sizeLine := hz
    refine call_list_text (I.ok.hd hc) hz' fun h' tk acc c k e a => ?_
    have hl : (chars z).length ≤ sizeLine := by unfold chars; rw [List.length_map, Array.length_toList]; exact hz'
    refine ⟨.ref s.heap.objs.size, _, I.laid (t' := tk) k (Nat.le_refl _) (show ObjOk X.prog X.w _ _ _ (.lst _) from ⟨?_, acc.toList, c, signs_vals a, ?_⟩), rfl, p _ _ hl (I.hok.fresh (Nat.le_refl _)) chars_rel⟩
    · rw [List.length_map, Array.length_toList]; exact hz'
    · rw [Array.toArray_toList]; exact e
  | [], _, _, plain => exact plain rfl
  | [.non], _, _, plain => exact plain rfl
  | [.bl _], _, _, plain => exact plain rfl
  | [.int _], _, _, plain => exact plain rfl
  | [.tup _], _, _, plain => exact plain rfl
  | [.lst _], _, _, plain => exact plain rfl
  | [.ref _], _, _, plain => exact plain rfl
  | [.fn _], _, _, plain => exact plain rfl
  | [.ty _], _, _, plain => exact plain rfl
  | [.cl _], _, _, plain => exact plain rfl
  | [.scr _], _, _, plain => exact plain rfl
  | [.dic _ _], _, _, plain => exact plain rfl
  | d1 :: _ :: _, _, _, plain => exact plain (by cases d1 <;> rfl)
end
end EV


/-! EvAB: repr of anything. -/
namespace EV
open PySem PySem.Spec PyProof.Rows L2
def fReprA : OpN
  | [.str z], _ => if (reprText z).length ≤ sizeLine then some (.v (.str (reprText z))) else none
  | [.non], _ => some (.v (.str "None"))
  | [.bl b], _ => some (.v (.str (if b then "True" else "False")))
  | [.int i], _ => if i.natAbs.log2 < 1920 then some (.v (.str (toString i))) else none
  | xs, h => fRepr xs h
section
variable {X : Cx} {C : Ctx} {ρ : RhoT} {H : Hp} {hd : Hd}
theorem small_line {n : Nat} (h : n ≤ 5000) : n ≤ sizeLine := by rw [sizeLine_eq]; omega
theorem fn_reprA (hK : X.K = C.K) (hg : X.A.guards = some []) (hu : X.A.units + 64 < cLine) : CallR X (.builtin "repr") (rON C fReprA) := by
  intro pins s σ H xs us Q I r ⟨ρ, hd, ds, sh, rl, p⟩
  have plain : ∀ (h : fReprA ds hd = fRepr ds hd), wpAny (model X.prog X.w) X.A (call (.builtin "repr") us) (EP X pins σ Q) X.xe s := fun h => fn_repr hK hg hu pins s σ H xs us Q I r ⟨ρ, hd, ds, sh, rl, h ▸ p⟩
  match ds, rl, p, plain with
  | [.str z], rl, p, _ =>
    obtain ⟨v, rfl, r1⟩ := relL1 rl
    obtain ⟨rfl, hz⟩ := of_str r1
    cases r with
    | @cons _ u _ _ q1 q2 =>
    cases q2
    obtain ⟨t, rfl⟩ := q1
    change PostO C ρ H hd Q (if (reprText z).length ≤ sizeLine then some (.v (.str (reprText z))) else none) at p
    split at p
    · rename_i hl
      exact PySem.P.repr_of_str ⟨.str _, H, I.tok _, ⟨_, rfl⟩, p.v sh (rel_str hl)⟩ hl
    · exact p.elim
  | [.non], rl, p, _ =>
    obtain ⟨v, rfl, r1⟩ := relL1 rl
    obtain rfl := of_non r1
    cases r with
    | @cons _ u _ _ q1 q2 =>
    cases q2
    obtain rfl := q1
    exact PySem.P.repr_of_none ⟨.str _, H, I.tok _, ⟨_, rfl⟩, p.v sh (rel_str (small_line (by decide)))⟩
  | [.bl b], rl, p, _ =>
    obtain ⟨v, rfl, r1⟩ := relL1 rl
    obtain rfl := of_bl r1
    cases r with
    | @cons _ u _ _ q1 q2 =>
    cases q2
    obtain rfl := q1
    exact PySem.P.repr_of_bool ⟨.str _, H, I.tok _, ⟨_, rfl⟩, p.v sh (rel_str (by cases b <;> exact small_line (by decide)))⟩
  | [.int i], rl, p, _ =>
    obtain ⟨v, rfl, r1⟩ := relL1 rl
    obtain rfl := of_int r1
    cases r with
    | @cons _ u _ _ q1 q2 =>
    cases q2
    obtain ⟨t, rfl⟩ := q1
    change PostO C ρ H hd Q (if i.natAbs.log2 < 1920 then some (.v (.str (toString i))) else none) at p
    split at p
    · rename_i hl
      exact PySem.P.repr_of_int hl ⟨.str _, H, I.tok _, ⟨_, rfl⟩, p.v sh (rel_str (int_text_fits hl))⟩
    · exact p.elim
  | [], _, _, plain => exact plain rfl
  | [.tup _], _, _, plain => exact plain rfl
  | [.lst _], _, _, plain => exact plain rfl
  | [.ref _], _, _, plain => exact plain rfl
  | [.fn _], _, _, plain => exact plain rfl
  | [.ty _], _, _, plain => exact plain rfl
  | [.cl _], _, _, plain => exact plain rfl
  | [.scr _], _, _, plain => exact plain rfl
  | [.dic _ _], _, _, plain => exact plain rfl
  | d1 :: _ :: _, _, _, plain => exact plain (by cases d1 <;> rfl)
end
end EV


/-! EvAC: for i, x in enumerate(a tuple, a list). -/
namespace EV
open PySem PySem.Spec PyProof.Rows L2
open Sem (wp)

set_option maxHeartbeats 1000000 in
theorem meets_enum1 {v : Value} {o : Obj} {H : Heap → Prop} (B : Begins v o H) :
    Meets (Builtin.«enumerate.__new__» ⟨[.type "enumerate", v], []⟩) (fun _ R s => H s.heap ∧
      R (.ok (.ret (.ref (s.heap.push o).objs.size))) { s with heap := (s.heap.push o).push { cls := .type "enumerate", data := .fields #[.none, .bool false, .ref s.heap.objs.size, rawInt 0, .none, .none] } }) :=
  .of_wp fun prog w A R s h => by
    obtain ⟨hp, g, d, tk, os⟩ := s
    obtain ⟨h1, h⟩ := h
    have hsub := sub_enumerate
    have begins : ∀ {A' : Around} {E : Value → Shared → Prop} {Q : Value → Shared → Prop}, Q (.ref hp.objs.size) ⟨hp.push o, g, d, tk, os⟩ → wpAny (model prog w) A' (pyIter v) Q E ⟨hp, g, d, tk, os⟩ :=
      fun q => B.iter prog w _ _ ⟨hp, g, d, tk, os⟩ _ h1 q
    wp_walk using begins
    refine wpAny_stack_any fun st => wpAny_pure ?_
    split
    · rename_i c _ _ _ _ _
      cases (c == Value.type "enumerate") <;> (wp_walk using begins; exact ⟨_, rfl, h⟩)
    · wp_walk using begins
      exact ⟨_, rfl, h⟩
theorem call_enumT {prog : Program} {w : World} {A : Around} {E : Value → Shared → Prop} {s : Shared} {v : Value} {o : Obj} {H : Heap → Prop} {Q : Value → Shared → Prop} (B : Begins v o H) (h1 : H s.heap)
    (h : ∀ h', IsEnum h' (s.heap.objs.size + 1) s.heap.objs.size 0 .none → h'.get? s.heap.objs.size = some o → (∀ b u, s.heap.get? b = some u → h'.get? b = some u) → Q (.ref (s.heap.objs.size + 1)) { s with heap := h' }) :
    wpAny (model prog w) A (call (.type "enumerate") [v]) Q E s := by
  refine callType_new F.called_enumerate (by decide) (F.typeCall_enumerate_1 _) (F.newCall_enumerate_1 _) (fun obj => F.args_object_init_2 obj _) F.entry_enumerate_new (meets_enum1 B) ⟨h1, ?_⟩
  have size1 : (s.heap.push o).objs.size = s.heap.objs.size + 1 := Heap.size_push ..
  show _ ∧ _
  rw [size1]
  have made : IsEnum ((s.heap.push o).push { cls := .type "enumerate", data := .fields #[.none, .bool false, .ref s.heap.objs.size, rawInt 0, .none, .none] }) (s.heap.objs.size + 1) s.heap.objs.size 0 .none := by
    have := Heap.get?_push_size (s.heap.push o) (o := { cls := .type "enumerate", data := .fields #[.none, .bool false, .ref s.heap.objs.size, rawInt 0, .none, .none] }) rfl
    rw [size1] at this
    exact this
  exact ⟨⟨_, made, rfl⟩, h _ made (Heap.get?_push_of_some _ (Heap.get?_push_size _ B.free)) fun b u x => Heap.get?_push_of_some _ (Heap.get?_push_of_some _ x)⟩

/-- the tuple at a, each item in a new pair -/
def ItE (K : PySem.W.Frag) (a : Addr) : It :=
  ⟨fun i H => ∃ (xs : List V) (x : V), SqT K H a xs ∧ xs[i]? = some x, fun i H v H' => ∃ T x, v = .ref T ∧ H T = none ∧ H' = upd H T (.tup [.int (i : Nat), x]) ∧ ∀ xs, SqT K H a xs → xs[i]? = some x, fun i H => ∃ xs : List V, SqT K H a xs ∧ xs.length ≤ i⟩
theorem turn_enumT {P : Program} {w : World} {K : PySem.W.Frag} {elts : List Expr} {kk : Nat} {tpos : Pos} (a e it : Addr) :
    Turn P w K (.Tuple elts kk tpos) (ItE K a) [e, it] e (fun i h => (∃ old, IsEnum h e it ((i : Nat) : Int) old) ∧ h.IsTupleIter it a i ∧ e ≠ it) where
  mem := by simp
  obj := fun i h st b hb => by
    obtain ⟨⟨old, he⟩, ⟨o, ho, hc, hd⟩, _⟩ := st
    rcases (show b = e ∨ b = it by simpa using hb) with z | z
    · rw [z]; exact ⟨_, he, fun v q => nomatch q⟩
    · rw [z]; exact ⟨o, ho, fun v q => by rw [hd] at q; cases q⟩
  keep := fun i h h' st k => by
    obtain ⟨⟨old, he⟩, hi, hne⟩ := st
    exact ⟨⟨old, k e (by simp) _ he⟩, hi.at fun o q => k it (by simp) o q, hne⟩
  item := by
    intro X hP hw hK hc i pins s σ H E I hf st hg
    subst hP hw hK
    obtain ⟨⟨old, he⟩, hit, hne⟩ := st
    obtain ⟨xs, x, hq, hx⟩ := hg
    obtain ⟨its, rv, p, hz⟩ := I.tuple hq
    have p' : s.heap.IsTuple a its.toArray := p
    have hai : a ≠ it := fun z => by
      obtain ⟨o, e1, c1, _⟩ := p'
      obtain ⟨o2, e2, c2, _⟩ := hit
      rw [z] at e1; rw [e1] at e2; cases e2
      rw [c1] at c2; exact absurd c2 (by decide +kernel)
    have hae : e ≠ a := fun z => by
      obtain ⟨o, e1, c1, _⟩ := p'
      have e2 : s.heap.get? e = some _ := he
      rw [z, e1] at e2; cases e2
      exact absurd c1 (by show Value.type "enumerate" ≠ .type "tuple"; decide +kernel)
    obtain ⟨u, hu, ru⟩ := rv.get hx
    have hel : e < s.heap.objs.size := Heap.lt_size he
    have hil : it < s.heap.objs.size := by obtain ⟨_, q, _⟩ := hit; exact Heap.lt_size q
    have hlt : i < its.toArray.size := by
      rw [List.size_toArray]
      exact (List.getElem?_eq_some_iff.mp hu).1
    refine wpAny_pyNext_enum_itemD (Draws.tuple (show X.A.in1.handled = none from I.ok.hd hc) it a hai its.toArray) he ⟨hit, p'⟩ hlt hne (by simp [hne, hae]) fun x1 h' tk px ho st' hT hsz hk => ?_
    have ex : x1 = u := by
      have px' : its[i]? = some x1 := by simpa using px
      rw [hu] at px'
      cases px'
      rfl
    subst ex
    refine ⟨_, rfl, wpAny_letOwnedTupleGo_enum (s := { s with heap := h', toks := tk + 1 }) ho fun h'' he' sb => ?_⟩
    have hT2 : h''.get? s.heap.objs.size = some { cls := .type "tuple", data := .seq #[.int i tk, x1] } := (sb.2 _ (Nat.ne_of_gt hel)).trans hT
    have new : ObjOk X.prog X.w (upd H s.heap.objs.size (.tup [.int (i : Nat), x])) h'' s.heap.objs.size (.tup [.int (i : Nat), x]) :=
      ⟨by show 2 ≤ sizeLine; decide, [.int i tk, x1], .cons ⟨_, rfl⟩ (.cons ru .nil), ⟨_, hT2, rfl, _, rfl⟩⟩
    have I1 : Inv X pins σ (upd H s.heap.objs.size (.tup [.int (i : Nat), x])) { s with heap := h'', toks := tk + 1 } :=
      I.turnedNew (ch := [e, it]) (fun b ob hb q => (sb.2 b (fun z => hb (by simp [z]))).trans (hk b ob (fun z => hb (by simp [z])) (fun z => hb (by simp [z])) q)) hf (Nat.le_refl _) new
    refine ⟨.ref s.heap.objs.size, _, I1, rfl, ⟨_, x, rfl, I.hok.fresh (Nat.le_refl _), rfl, fun ys hy => by rw [I.tuple_inj hy hq]; exact hx⟩, ⟨⟨x1, ?_⟩, st'.1.at fun o q => (sb.2 it (Ne.symm hne)).trans q, hne⟩, fun b hb => ?_⟩
    · rw [show ((i + 1 : Nat) : Int) = (i : Int) + 1 by omega]
      exact he'
    · have hb' : b < s.heap.objs.size := by
        rcases (show b = e ∨ b = it by simpa using hb) with z | z
        · rw [z]; exact hel
        · rw [z]; exact hil
      rw [upd_ne (Nat.ne_of_lt hb')]
      exact (hf b hb).1
  done := by
    intro X hP hw hK hc i pins s σ H E I hf st hg
    subst hP hw hK
    obtain ⟨⟨old, he⟩, hit, hne⟩ := st
    obtain ⟨xs, hq, hx⟩ := hg
    obtain ⟨its, rv, p, hz⟩ := I.tuple hq
    have p' : s.heap.IsTuple a its.toArray := p
    have hai : a ≠ it := fun z => by
      obtain ⟨o, e1, c1, _⟩ := p'
      obtain ⟨o2, e2, c2, _⟩ := hit
      rw [z] at e1; rw [e1] at e2; cases e2
      rw [c1] at c2; exact absurd c2 (by decide +kernel)
    obtain ⟨f0, f1, f2, f3, f4, f5⟩ := hf it (by simp)
    have hl := rv.length
    unfold pyNext
    have hT : s.TypeIs (.ref e) "enumerate" := ⟨_, he, rfl⟩
    refine wpAny_bind (wpAny_attempt (wpAny_callSpecial?_slot (name := Str.ofString "__next__") hT F.slot_enumerate_next (wpAny_call_entry F.slot_enumerate_next hT F.entry_enumerate_next ?_ (F.args_enumerate_next_1 _))))
    show wpAny _ _ (field (.ref e) 2 >>= _) _ _ _
    refine wpAny_bind (wpAny_field he rfl (x := .ref it) rfl ?_)
    refine wpAny_bind (wpAny_nextOf_tuple_end (show X.A.in1.handled = none from I.ok.hd hc) hit p' (by simp; omega) fun h' x he' hx' => ?_)
    obtain ⟨o, ho, hc'⟩ := hx'
    exact wpAny_bind (wpAny_isInstance (T := "StopIteration") (b := true) ⟨o, ho, hc'⟩ isSubtype_stop (wpAny_pure ⟨rfl, I.turned (t' := s.toks) (fun b o hb q => he' b o hb q) f0 f1 f3 f4 f5⟩))
  self := fun A i s Q E st h => let ⟨⟨_, he⟩, _⟩ := st; wpAny_pyIter_enum he h
def iEnumT (K : PySem.W.Frag) (ta : TA) : TI := fun σ H R => ta σ H fun vs H1 => ∃ a xs, vs = [.ref a] ∧ SqT K H1 a xs ∧ R (ItE K a) H1
theorem pi_enumT {X : Cx} {e : Expr} {ta : TA} {p pos tpos : Pos} {elts : List Expr} {kk : Nat} (hg : Gl X "enumerate") (hm : X.mg "enumerate" = none) (ha : PA X [e] ta) (hs : starEach [e] X.env = [(false, eval e X.env)]) :
    PI X (.Tuple elts kk tpos) (.Call (.Name "enumerate" p) [e] [] pos) (iEnumT X.K ta) := by
  refine ⟨fun pins s σ H R I h => ?_⟩
  refine Call_ (ld_blt I hg hm boot_enumerate (PyProof.Rows.callWith_type1 (thn (ha.run pos pins s σ H _ I h) fun us s1 ⟨vs, H1, I1, r1, q1⟩ => ?_) hs rfl))
  obtain ⟨a, xs, ex, hq, q⟩ := q1
  subst ex
  cases r1 with
  | cons r rr =>
    cases rr
    cases r
    obtain ⟨its, rv, p', hz⟩ := I1.tuple hq
    refine call_enumT (begins_tuple a its.toArray) p' fun h' he hit hk => wpAny_pyIter_enum he ?_
    have I2 : Inv X pins σ H1 { s1 with heap := h' } := I1.kept (t' := s1.toks) hk
    refine ⟨s1.heap.objs.size + 1, [s1.heap.objs.size + 1, s1.heap.objs.size], _, _, H1, rfl, I2, turn_enumT a (s1.heap.objs.size + 1) s1.heap.objs.size, ⟨⟨.none, he⟩, ⟨_, hit, rfl, rfl⟩, Nat.succ_ne_self _⟩, fun b hb => ?_, q⟩
    have hle : s1.heap.objs.size ≤ b := by
      rcases (show b = s1.heap.objs.size + 1 ∨ b = s1.heap.objs.size by simpa using hb) with z | z
      · rw [z]; exact Nat.le_add_right _ _
      · rw [z]; exact Nat.le_refl _
    exact I1.fpOk hle (I1.hok.fresh hle)

/-! ### in the evaluator -/
section
variable {X : Cx} {C : Ctx} {W : WX} {e : Expr} {ma : M D} {ρ : RhoT} {H : Hp} {p pos tpos : Pos} {elts : List Expr} {kk : Nat}
def numbered (xs : List D) : List D := xs.zipIdx.map fun q => .tup [.int (q.2 : Nat), q.1]
theorem numbered_get {xs : List D} {i : Nat} {d : D} (h : (numbered xs)[i]? = some d) : ∃ x, xs[i]? = some x ∧ d = .tup [.int (i : Nat), x] := by
  unfold numbered at h
  rw [List.getElem?_map, List.getElem?_zipIdx] at h
  cases q : xs[i]? with
  | none => rw [q] at h; cases h
  | some x => rw [q] at h; simp at h; exact ⟨x, rfl, h.symm⟩
def ienum (a : M D) : MI := fun env h => (a env h).bind fun x h1 => match x with
  | .tup xs => .ok (numbered xs) h1
  | .lst xs => .ok (numbered xs) h1
  | _ => .bad
theorem yld_pair {C : Ctx} {ρ' : RhoT} {H' : Hp} {hd' : Hd} {i : Nat} {x : D} {v : V} {T : Addr} (hT : H' T = none) (s : SimH C ρ' H' hd') (r : Rel C ρ' H' x v) : Ext ρ' ρ' H' (upd H' T (.tup [.int (i : Nat), v])) ∧ SimH C ρ' (upd H' T (.tup [.int (i : Nat), v])) hd' ∧ Rel C ρ' (upd H' T (.tup [.int (i : Nat), v])) (.tup [.int (i : Nat), x]) (.ref T) :=
  ⟨Ext.upd_new hT, s.upd_new hT, rel_tup s hT (RelL.cons rel_int (RelL.cons r RelL.nil)) (by show 2 ≤ sizeLine; decide)⟩
theorem irel_enumT {xs : List D} {a : Addr} {vs : List V} (hs : ∀ ρ' H', Keeps ρ ρ' H H' → SqT C.K H' a vs) (r : RelL C ρ H xs vs) (hz : xs.length ≤ sizeLine) : IRel C ρ H (numbered xs) (ItE C.K a) where
  len := by unfold numbered; simpa using hz
  go := fun ρ' H' i k hi => by
    have hl := r.length
    have hi' : i < xs.length := by unfold numbered at hi; simpa using hi
    exact ⟨vs, vs[i]'(by omega), hs ρ' H' k, by simp⟩
  yld := fun ρ' H' i x H'' hd' d k s e ⟨T, y, e1, hT, e2, e3⟩ => by
    subst e1 e2
    obtain ⟨x0, g, rfl⟩ := numbered_get e
    obtain ⟨v, h1, h2⟩ := r.get g
    have := e3 vs (hs ρ' H' k)
    rw [h1] at this; cases this
    exact yld_pair hT s (Rel.keeps k _ _ h2)
  stop := fun ρ' H' k => ⟨vs, hs ρ' H' k, by unfold numbered; simp [r.length]⟩
theorem irel_enumL {xs : List D} {a : Addr} {vs : List V} (hs : ∀ ρ' H', Keeps ρ ρ' H H' → SqL C.K H' a vs) (r : RelL C ρ H xs vs) (hz : xs.length ≤ sizeLine) : IRel C ρ H (numbered xs) (Ite C.K a) where
  len := by unfold numbered; simpa using hz
  go := fun ρ' H' i k hi => by
    have hl := r.length
    have hi' : i < xs.length := by unfold numbered at hi; simpa using hi
    exact ⟨vs, vs[i]'(by omega), hs ρ' H' k, by simp⟩
  yld := fun ρ' H' i x H'' hd' d k s e ⟨T, y, e1, hT, e2, e3⟩ => by
    subst e1 e2
    obtain ⟨x0, g, rfl⟩ := numbered_get e
    obtain ⟨v, h1, h2⟩ := r.get g
    have := e3 vs (hs ρ' H' k)
    rw [h1] at this; cases this
    exact yld_pair hT s (Rel.keeps k _ _ h2)
  stop := fun ρ' H' k => ⟨vs, hs ρ' H' k, by unfold numbered; simp [r.length]⟩
theorem evi_enum (hK : X.K = C.K) (hm : X.mg "enumerate" = none) (hg : X.env.kindOf "enumerate" = some .globalImplicit) (he : PE X e (tE C W ma)) (hs : notStar e = true) : PI X (.Tuple elts kk tpos) (.Call (.Name "enumerate" p) [e] [] pos) (tI C W (ienum ma)) :=
  weakI (orI (pi_enumT hg hm (evl_cons (C := C) (W := W) he evl_nil hs) (starEach_at hs)) (pi_enum hg hm (evl_cons (C := C) (W := W) he evl_nil hs) (starEach_at hs))) fun σ H R ⟨ρ, env, hd, er, sh, p⟩ => by
    have one : ∀ {Q' : List V → Hp → Prop} (k : ∀ d h, ma env hd = .ok d h → ∀ ρ1 H1 v, Ext ρ ρ1 H H1 → SimH C ρ1 H1 h → Rel C ρ1 H1 d v → Q' [v] H1), tL C W (mcons ma mnil) σ H Q' := fun {Q'} k => by
      refine ⟨ρ, env, hd, er, sh, ?_⟩
      unfold ienum at p
      unfold mcons mnil
      cases hm : ma env hd with
      | bad => rw [hm] at p; exact p.elim
      | exc x h => rw [hm] at p; exact p
      | ok d h =>
        intro ρ1 H1 vs x s r
        obtain ⟨v, rfl, r1⟩ := relL1 r
        exact k d h hm ρ1 H1 v x s r1
    unfold ienum at p
    cases hm : ma env hd with
    | bad => rw [hm] at p; exact p.elim
    | exc x h => exact .inl (one fun d h' e => by rw [hm] at e; cases e)
    | ok d h =>
      rw [hm] at p
      cases d with
      | tup xs =>
        refine .inl (one fun d' h' e ρ1 H1 v x s r => ?_)
        rw [hm] at e; cases e
        simp only [Rel] at r
        obtain ⟨a, vs, rfl, t, rl, z⟩ := r
        exact ⟨a, vs, rfl, hK ▸ t.sq, hK ▸ p ρ1 H1 _ x s (irel_enumT (fun ρ' H' k => (t.keeps k).sq) rl z)⟩
      | lst xs =>
        refine .inr (one fun d' h' e ρ1 H1 v x s r => ?_)
        rw [hm] at e; cases e
        simp only [Rel] at r
        obtain ⟨a, vs, rfl, t, rl, z⟩ := r
        exact ⟨a, vs, rfl, .of t.1, hK ▸ p ρ1 H1 _ x s (irel_enumL (fun ρ' H' k => .of (k.frz _ _ t.1 t.2).1) rl z)⟩
      | _ => exact p.elim
end
end EV


/-! EvT: what holds behind a run of the evaluator, step by step. -/
namespace EV
open PySem PySem.Spec PyProof.Rows L2
/-- it ends with a value of which Q holds, or an error of which E holds -/
def Sat {α : Type} (r : Res α) (Q : α → Hd → Prop) (E : Exn → Hd → Prop) : Prop := match r with
  | .ok a h => Q a h
  | .exc x h => E x h
  | .bad => False
def SatS (r : SR) (Q : Fl → Env → Hd → Prop) : Prop := match r with
  | some (fl, e, h) => Q fl e h
  | none => False
def SatO {α : Type} (r : Option α) (Q : α → Prop) : Prop := match r with
  | some a => Q a
  | none => False
section
variable {α β : Type} {a : α} {h : Hd} {Q : α → Hd → Prop} {Q' : D → Hd → Prop} {E : Exn → Hd → Prop} {S : Fl → Env → Hd → Prop} {env : Env} {m : Bool} {d : D} {xs : List D}
@[simp] theorem sat_ok : Sat (.ok a h) Q E = Q a h := rfl
@[simp] theorem sat_exc (x : Exn) : Sat (.exc x h : Res α) Q E = E x h := rfl
@[simp] theorem sat_bad : Sat (.bad : Res α) Q E = False := rfl
@[simp] theorem sat_bind (r : Res β) (f : β → Hd → Res α) : Sat (r.bind f) Q E = Sat r (fun a h => Sat (f a h) Q E) E := by cases r <;> rfl
theorem Sat.mono {r : Res α} {Q2 : α → Hd → Prop} {E2 : Exn → Hd → Prop} (s : Sat r Q E) (k : ∀ a h, Q a h → Q2 a h) (ke : ∀ x h, E x h → E2 x h) : Sat r Q2 E2 := by
  cases r with
  | ok a h => exact k a h s
  | exc x h => exact ke x h s
  | bad => exact s
theorem Sat.of {r : Res α} {a : α} {h : Hd} (e : r = .ok a h) (q : Q a h) : Sat r Q E := by rw [e]; exact q
@[simp] theorem satS_some (fl : Fl) (e : Env) : SatS (some (fl, e, h)) S = S fl e h := rfl
@[simp] theorem satS_none : SatS none S = False := rfl
@[simp] theorem satO_some (Q : α → Prop) : SatO (some a) Q = Q a := rfl
@[simp] theorem satO_none (Q : α → Prop) : SatO none Q = False := rfl
theorem SatS.mono {r : SR} {S2 : Fl → Env → Hd → Prop} (s : SatS r S) (k : ∀ f e h, S f e h → S2 f e h) : SatS r S2 := by
  match r, s with
  | some (f, e, h), s => exact k f e h s
def toRet (Q : D → Hd → Prop) (E : Exn → Hd → Prop) : Fl → Env → Hd → Prop
  | .nx, _, h => Q .non h
  | .ret d, _, h => Q d h
  | .exc x, _, h => E x h
  | _, _, _ => False
@[simp] theorem toRet_nx (e : Env) : toRet Q' E .nx e h = Q' .non h := rfl
@[simp] theorem toRet_ret (e : Env) : toRet Q' E (.ret d) e h = Q' d h := rfl
@[simp] theorem toRet_exc (e : Env) (x : Exn) : toRet Q' E (.exc x) e h = E x h := rfl
@[simp] theorem sat_run (n : Nat) (s : MS) (ds : List D) : Sat (runB n s ds h) Q' E = SatS (s (startE n ds) h) (toRet Q' E) := by
  unfold runB
  cases s (startE n ds) h with
  | none => rfl
  | some q => obtain ⟨fl, e, h⟩ := q; cases fl <;> rfl
def toSeq (b : MS) (S : Fl → Env → Hd → Prop) : Fl → Env → Hd → Prop
  | .nx, e, h => SatS (b e h) S
  | fl, e, h => S fl e h
@[simp] theorem toSeq_nx (b : MS) (e : Env) : toSeq b S .nx e h = SatS (b e h) S := rfl
@[simp] theorem toSeq_ret (b : MS) (e : Env) : toSeq b S (.ret d) e h = S (.ret d) e h := rfl
@[simp] theorem toSeq_exc (b : MS) (e : Env) (x : Exn) : toSeq b S (.exc x) e h = S (.exc x) e h := rfl
@[simp] theorem toSeq_bk (b : MS) (e : Env) : toSeq b S .bk e h = S .bk e h := rfl
@[simp] theorem toSeq_ct (b : MS) (e : Env) : toSeq b S .ct e h = S .ct e h := rfl
@[simp] theorem satS_seq (s t : MS) : SatS (sSeq s t env h) S = SatS (s env h) (toSeq t S) := by
  unfold sSeq
  cases s env h with
  | none => rfl
  | some q => obtain ⟨fl, e, h⟩ := q; cases fl <;> rfl
@[simp] theorem satS_pass : SatS (sPass env h) S = S .nx env h := rfl
@[simp] theorem satS_brk : SatS (sBrk env h) S = S .bk env h := rfl
@[simp] theorem satS_cnt : SatS (sCnt env h) S = S .ct env h := rfl
@[simp] theorem satS_expr (a : M D) : SatS (sExpr a env h) S = Sat (a env h) (fun _ h => S .nx env h) (fun x h => S (.exc x) env h) := by
  unfold sExpr ofE; cases a env h <;> rfl
@[simp] theorem satS_ret (a : M D) : SatS (sRet a env h) S = Sat (a env h) (fun d h => S (.ret d) env h) (fun x h => S (.exc x) env h) := by
  unfold sRet ofE; cases a env h <;> rfl
@[simp] theorem satS_retN : SatS (sRetN env h) S = S (.ret .non) env h := rfl
@[simp] theorem satS_asg (a : M D) (g : MG) : SatS (sAsg a g env h) S = Sat (a env h) (fun d h => SatO (g d env h) fun r => S .nx r.1 r.2) (fun x h => S (.exc x) env h) := by
  unfold sAsg ofE
  cases a env h with
  | ok d h => cases hg : g d env h with
    | none => simp only [hg, sat_ok]; rfl
    | some r => obtain ⟨e, h2⟩ := r; simp only [hg, sat_ok]; rfl
  | exc x h => rfl
  | bad => rfl
@[simp] theorem satS_if (c : M Bool) (s t : MS) : SatS (sIf c s t env h) S = Sat (c env h) (fun k h => SatS (if k then s env h else t env h) S) (fun x h => S (.exc x) env h) := by
  unfold sIf ofT; cases c env h <;> rfl
@[simp] theorem satS_for (it : MI) (g : MG) (body : MS) : SatS (sFor it g body env h) S = Sat (it env h) (fun items h => SatS (forLoop g body items env h) S) (fun x h => S (.exc x) env h) := by
  unfold sFor; cases it env h <;> rfl
@[simp] theorem sat_comp (own : List Nat) (it : MI) (g : MG) (cond : M Bool) (elt : M D) : Sat (mcomp m own it g cond elt env h) Q' E = Sat (it env h) (fun items h1 => SatO (compLoop g cond elt (wipeE env own) items [] h1) fun r => Sat (fin m (some (.new r.1)) r.2) Q' E) E := by
  rw [mcomp_at, sat_bind]
  congr 1
  funext items h1
  cases compLoop g cond elt (wipeE env own) items [] h1 with
  | none => rfl
  | some r => obtain ⟨acc, h2⟩ := r; rfl
@[simp] theorem satS_par2 (i j : Nat) (as : M (List D)) : SatS (sPar2 i j as env h) S = Sat (as env h) (fun ds h => match ds with | [v, w] => S .nx ((env.set i (some v)).set j (some w)) h | _ => False) (fun x h => S (.exc x) env h) := by
  unfold sPar2
  cases as env h with
  | bad => rfl
  | exc x h => rfl
  | ok ds h => match ds with
    | [] => rfl
    | [_] => rfl
    | [v, w] => rfl
    | _ :: _ :: _ :: _ => rfl
@[simp] theorem satS_par3 (i j l : Nat) (as : M (List D)) : SatS (sPar3 i j l as env h) S = Sat (as env h) (fun ds h => match ds with | [v, w, u] => S .nx (((env.set i (some v)).set j (some w)).set l (some u)) h | _ => False) (fun x h => S (.exc x) env h) := by
  unfold sPar3
  cases as env h with
  | bad => rfl
  | exc x h => rfl
  | ok ds h => match ds with
    | [] => rfl
    | [_] => rfl
    | [_, _] => rfl
    | [v, w, u] => rfl
    | _ :: _ :: _ :: _ :: _ => rfl
@[simp] theorem sat_ite {c : Prop} [Decidable c] (r : Res α) : Sat (if c then r else .bad) Q E = (c ∧ Sat r Q E) := by
  by_cases hc : c
  · rw [if_pos hc]; simp [hc]
  · rw [if_neg hc]; simp [hc]
@[simp] theorem fin_ite {c : Prop} [Decidable c] (o : Option OV) : fin m (if c then o else none) h = if c then fin m o h else .bad := by split <;> rfl
@[simp] theorem mdisp_at (l : List (M D × M D)) : mdisp m l env h = (mpairs l env h).bind fun xs h1 => finD m (if xs.length ≤ 15 then (keysP xs).map (mergeP []) else none) h1 := rfl
@[simp] theorem mpairs_nil : mpairs [] env h = .ok [] h := rfl
@[simp] theorem mpairs_cons (a b : M D) (r : List (M D × M D)) : mpairs ((a, b) :: r) env h = (a env h).bind fun x h1 => (b env h1).bind fun y h2 => (mpairs r env h2).bind fun xs h3 => .ok ((x, y) :: xs) h3 := rfl
@[simp] theorem mixd_at (o e : M D) : mixd o e env h = (o env h).bind fun d h1 => (e env h1).bind fun k h2 => match dicOf d h2, keyOf k with
  | some (ks, xs), some q => (match valD ks xs q with | some x => .ok x h2 | none => .bad)
  | _, _ => fin false (oIx d k h2) h2 := rfl
@[simp] theorem mget2_at (o e f : M D) : mget2 o e f env h = (o env h).bind fun d h1 => match dicOf d h1 with
  | none => .bad
  | some _ => (e env h1).bind fun k h2 => (f env h2).bind fun x h3 => match dicOf d h3, keyOf k with
    | some (ks, xs), some q => .ok ((valD ks xs q).getD x) h3
    | _, _ => .bad := rfl
@[simp] theorem mdict_at (a : M D) : mdict m a env h = (a env h).bind fun x h1 => finD m (fDict x h1) h1 := rfl
@[simp] theorem mfz_at (a : M D) : mfz a env h = (a env h).bind fun x h1 => match x with
  | .ref n => (match h1[n]? with
    | some (.lst xs) => .ok (.lst xs) (h1.set n .dead)
    | some (.dic ks xs) => .ok (.dic ks xs) (h1.set n .dead)
    | _ => .bad)
  | _ => .bad := by
  unfold mfz
  rfl
@[simp] theorem mstar_at (a : M D) (r : M (List D)) : mstar a r env h = (a env h).bind fun x h1 => match seqOf x h1 with
  | some ys => (r env h1).bind fun xs h2 => .ok (ys ++ xs) h2
  | none => .bad := rfl
@[simp] theorem mdzip_at (a b : M D) : mdzip m a b env h = (a env h).bind fun x h1 => (b env h1).bind fun y h2 => finD m (match seqOf x h2, seqOf y h2 with
  | some xs, some ys => (zipP xs ys).map (mergeP [])
  | _, _ => none) h2 := rfl
end
/-! ### loops -/
/-- a comprehension: J holds behind each turn, of the values made P -/
theorem comp_sat {i : Nat} {elt : M D} {env : Env} {J : Nat → Hd → Prop} {P : Nat → D → Prop} {Q : List D × Hd → Prop} {xs : List D} {h : Hd} (j0 : J 0 h)
    (step : ∀ k x h, xs[k]? = some x → J k h → Sat (elt (env.set i (some x)) h) (fun y h' => J (k + 1) h' ∧ P k y) fun _ _ => False)
    (done : ∀ ys h', ys.length = xs.length → (∀ k y, ys[k]? = some y → P k y) → J xs.length h' → Q (ys, h')) : SatO (compLoop (gname i) yes elt env xs [] h) Q := by
  suffices key : ∀ (r : List D) (acc : List D) (h : Hd), xs.drop acc.length = r → acc.length ≤ xs.length → (∀ k y, acc[k]? = some y → P k y) → J acc.length h → SatO (compLoop (gname i) yes elt env r acc h) Q from key xs [] h rfl (Nat.zero_le _) (fun k y e => by simp at e) j0
  intro r
  induction r with
  | nil =>
    intro acc h hd hl hp hj
    have he : acc.length = xs.length := by
      have := congrArg List.length hd
      simp at this; omega
    unfold compLoop
    rw [satO_some]
    exact done acc h he hp (he ▸ hj)
  | cons x r ih =>
    intro acc h hd hl hp hj
    have hlt : acc.length < xs.length := by
      have := congrArg List.length hd
      simp at this; omega
    have hx : xs[acc.length]? = some x := by
      have := congrArg (·[0]?) hd
      simpa using this
    have hs := step acc.length x h hx hj
    unfold compLoop
    simp only [gname_at, yes]
    cases e : elt (env.set i (some x)) h with
    | bad => rw [e] at hs; exact hs.elim
    | exc _ _ => rw [e] at hs; exact hs.elim
    | ok y h1 =>
      rw [e, sat_ok] at hs
      simp only
      refine ih (acc ++ [y]) h1 ?_ (by simp; omega) (fun k z ek => ?_) (by simpa using hs.1)
      · rw [List.length_append, List.length_singleton, ← List.drop_drop, hd]; rfl
      · by_cases hk : k < acc.length
        · rw [List.getElem?_append_left hk] at ek; exact hp k z ek
        · rw [List.getElem?_append_right (by omega)] at ek
          have : k = acc.length := by
            have := (List.getElem?_eq_some_iff.mp ek).1
            simp at this; omega
          subst this
          simp at ek; subst ek
          exact hs.2
/-- .. whatever takes the items -/
theorem comp_satG {g : MG} {elt : M D} {env : Env} {J : Nat → Hd → Prop} {P : Nat → D → Prop} {Q : List D × Hd → Prop} {xs : List D} {h : Hd} (j0 : J 0 h)
    (step : ∀ k x h, xs[k]? = some x → J k h → SatO (g x env h) fun r => Sat (elt r.1 r.2) (fun y h' => J (k + 1) h' ∧ P k y) fun _ _ => False)
    (done : ∀ ys h', ys.length = xs.length → (∀ k y, ys[k]? = some y → P k y) → J xs.length h' → Q (ys, h')) : SatO (compLoop g yes elt env xs [] h) Q := by
  suffices key : ∀ (r : List D) (acc : List D) (h : Hd), xs.drop acc.length = r → acc.length ≤ xs.length → (∀ k y, acc[k]? = some y → P k y) → J acc.length h → SatO (compLoop g yes elt env r acc h) Q from key xs [] h rfl (Nat.zero_le _) (fun k y e => by simp at e) j0
  intro r
  induction r with
  | nil =>
    intro acc h hd hl hp hj
    have he : acc.length = xs.length := by
      have := congrArg List.length hd
      simp at this; omega
    unfold compLoop
    rw [satO_some]
    exact done acc h he hp (he ▸ hj)
  | cons x r ih =>
    intro acc h hd hl hp hj
    have hlt : acc.length < xs.length := by
      have := congrArg List.length hd
      simp at this; omega
    have hx : xs[acc.length]? = some x := by
      have := congrArg (·[0]?) hd
      simpa using this
    have hs := step acc.length x h hx hj
    unfold compLoop
    cases eg : g x env h with
    | none => rw [eg] at hs; exact hs.elim
    | some r1 =>
    obtain ⟨e1, h0⟩ := r1
    rw [eg, satO_some] at hs
    simp only [yes]
    cases e : elt e1 h0 with
    | bad => rw [e] at hs; exact hs.elim
    | exc _ _ => rw [e] at hs; exact hs.elim
    | ok y h1 =>
      rw [e, sat_ok] at hs
      simp only
      refine ih (acc ++ [y]) h1 ?_ (by simp; omega) (fun k z ek => ?_) (by simpa using hs.1)
      · rw [List.length_append, List.length_singleton, ← List.drop_drop, hd]; rfl
      · by_cases hk : k < acc.length
        · rw [List.getElem?_append_left hk] at ek; exact hp k z ek
        · rw [List.getElem?_append_right (by omega)] at ek
          have : k = acc.length := by
            have := (List.getElem?_eq_some_iff.mp ek).1
            simp at this; omega
          subst this
          simp at ek; subst ek
          exact hs.2
/-- a comprehension whose elements read the items alone -/
theorem comp_mapS {i : Nat} {elt : M D} {env : Env} {f : D → D} {Q : List D × Hd → Prop} {xs : List D} {h : Hd} (e : ∀ x ∈ xs, elt (env.set i (some x)) h = .ok (f x) h) (done : Q (xs.map f, h)) : SatO (compLoop (gname i) yes elt env xs [] h) Q := by
  rw [comp_map e]
  exact done
/-- a loop that ends each turn plainly: J holds of the slots and the heap -/
theorem for_sat {g : MG} {body : MS} {J : Nat → Env → Hd → Prop} {S : Fl → Env → Hd → Prop} {xs : List D} {env : Env} {h : Hd} (j0 : J 0 env h)
    (step : ∀ k x e h, xs[k]? = some x → J k e h → SatO (g x e h) fun r => SatS (body r.1 r.2) fun fl e h => match fl with | .nx => J (k + 1) e h | .ct => J (k + 1) e h | .bk => S .nx e h | fl => S fl e h)
    (done : ∀ e h, J xs.length e h → S .nx e h) : SatS (forLoop g body xs env h) S := by
  suffices key : ∀ (r : List D) (k : Nat) (env : Env) (h : Hd), xs.drop k = r → k ≤ xs.length → J k env h → SatS (forLoop g body r env h) S from key xs 0 env h rfl (Nat.zero_le _) j0
  intro r
  induction r with
  | nil =>
    intro k env h hd hk hj
    have : k = xs.length := by
      have := congrArg List.length hd
      simp at this; omega
    subst this
    exact done env h hj
  | cons x r ih =>
    intro k env h hd hk hj
    have hx : xs[k]? = some x := by
      have := congrArg (·[0]?) hd
      simpa using this
    have hlt := (List.getElem?_eq_some_iff.mp hx).1
    have hs := step k x env h hx hj
    unfold forLoop
    cases hg : g x env h with
    | none => rw [hg] at hs; exact hs.elim
    | some r1 =>
      obtain ⟨e1, h1⟩ := r1
      rw [hg, satO_some] at hs
      simp only at hs ⊢
      have hd' : xs.drop (k + 1) = r := by rw [← List.drop_drop, hd]; rfl
      cases hb : body e1 h1 with
      | none => rw [hb] at hs; exact hs.elim
      | some r2 =>
        obtain ⟨fl, e2, h2⟩ := r2
        rw [hb, satS_some] at hs
        cases fl with
        | nx => exact ih (k + 1) e2 h2 hd' hlt hs
        | ct => exact ih (k + 1) e2 h2 hd' hlt hs
        | bk => exact hs
        | ret d => exact hs
        | exc x => exact hs
end EV


/-! EvQ: texts that show data; expressions, items, bodies as plain data. -/
namespace EV
open PySem PySem.Spec PyProof.Rows L2

/-! ### 'w' does not stand in a text -/
def NoQ (w l : List Nat) : Prop := ∀ p s, l ≠ p ++ (39 :: (w ++ 39 :: s))
theorem NoQ.cons {w l : List Nat} {c : Nat} (h : NoQ w l) (hc : c ≠ 39) : NoQ w (c :: l) := fun p s e => by
  cases p with
  | nil => exact hc (List.cons.inj e).1
  | cons d p => exact h p s (List.cons.inj e).2
theorem NoQ.snoc {w l : List Nat} {c : Nat} (h : NoQ w l) (hc : c ≠ 39) : NoQ w (l ++ [c]) := fun p s e => by
  rcases List.eq_nil_or_concat s with rfl | ⟨s', d, rfl⟩
  · have e' : l ++ [c] = (p ++ 39 :: w) ++ [39] := by rw [e]; simp
    have e2 : [c] = [39] := (List.append_inj' e' rfl).2
    exact hc (List.cons.inj e2).1
  · have e' : l ++ [c] = (p ++ (39 :: (w ++ 39 :: s'))) ++ [d] := by rw [e]; simp
    exact h p s' (List.append_inj' e' rfl).1
theorem NoQ.none {w l : List Nat} (h : 39 ∉ l) : NoQ w l := fun p s e => h (by rw [e]; simp)
theorem NoQ.sep {w x y : List Nat} (hx : NoQ w x) (hy : NoQ w y) (hw : 44 ∉ w) : NoQ w (x ++ (44 :: 32 :: y)) := fun p s e => by
  have e' : x ++ (44 :: 32 :: y) = p ++ ((39 :: (w ++ [39])) ++ s) := by rw [e]; simp
  rcases List.append_eq_append_iff.mp e' with ⟨a, rfl, ea⟩ | ⟨c, rfl, ec⟩
  · match a, ea with
    | [], ea => simp at ea
    | [b], ea => simp at ea
    | b :: b' :: a, ea =>
      simp at ea
      exact hy a s (by rw [ea.2.2])
  · rcases List.append_eq_append_iff.mp ec with ⟨a, ea, _⟩ | ⟨b, eb, es⟩
    · exact hx p a (by rw [ea]; simp)
    · cases b with
      | nil =>
        have : c = 39 :: (w ++ [39]) := by simpa using eb.symm
        exact hx p [] (by rw [this])
      | cons d b =>
        have hd : 44 = d := by simp at es; exact es.1
        subst hd
        have : 44 ∈ (39 :: (w ++ [39])) := by rw [eb]; simp
        simp at this
        exact hw this
theorem NoQ.word {w t : List Nat} (ht : 39 ∉ t) (hw : 39 ∉ w) (hne : t ≠ w) : NoQ w (39 :: (t ++ [39])) := fun p s e => by
  have hc := congrArg (List.count 39) e
  simp only [List.count_cons_self, List.count_append, List.count_nil, List.count_eq_zero.mpr ht, List.count_eq_zero.mpr hw] at hc
  have hp : List.count 39 p = 0 := by omega
  have hs : List.count 39 s = 0 := by omega
  cases p with
  | cons d p =>
    have : d = 39 := (List.cons.inj e).1.symm
    subst this
    rw [List.count_cons_self] at hp
    omega
  | nil =>
    rcases List.eq_nil_or_concat s with rfl | ⟨s', d, rfl⟩
    · have : t ++ [39] = w ++ [39] := (List.cons.inj e).2
      exact hne (List.append_inj' this rfl).1
    · have e' : (39 :: t) ++ [39] = (39 :: (w ++ 39 :: s')) ++ [d] := by
        have := e
        simp at this ⊢
        exact this
      have : [39] = [d] := (List.append_inj' e' rfl).2
      have hd : d = 39 := by simpa using this.symm
      subst hd
      rw [List.concat_eq_append, List.count_append] at hs
      simp at hs
theorem NoQ.join {w : List Nat} (hw : 44 ∉ w) : ∀ {ts : List Str}, (∀ t ∈ ts, NoQ w t.cps.toList) → NoQ w (Str.join ", " ts).cps.toList
  | [], _ => NoQ.none (by decide)
  | [x], h => h x List.mem_cons_self
  | x :: y :: r, h => by
    have ih := NoQ.join hw (ts := y :: r) fun t ht => h t (List.mem_cons_of_mem _ ht)
    have hx := h x List.mem_cons_self
    have e : (Str.join ", " (x :: y :: r)).cps.toList = x.cps.toList ++ (44 :: 32 :: (Str.join ", " (y :: r)).cps.toList) := by
      show ((x ++ (", " : Str)) ++ Str.join ", " (y :: r)).cps.toList = _
      have e1 : ∀ a b : Str, (a ++ b).cps.toList = a.cps.toList ++ b.cps.toList := fun a b => Array.toList_append
      rw [e1, e1, List.append_assoc]
      rfl
    rw [e]
    exact hx.sep ih hw
theorem NoQ.tuple {w : List Nat} (hw : 44 ∉ w) {ts : List Str} (h : ∀ t ∈ ts, NoQ w t.cps.toList) : NoQ w (tupleText ts).cps.toList := by
  have e1 : ∀ a b : Str, (a ++ b).cps.toList = a.cps.toList ++ b.cps.toList := fun a b => Array.toList_append
  have j := NoQ.join hw h
  unfold tupleText
  rw [e1, e1]
  split
  · have e2 : (Str.ofString ",)").cps.toList = [44, 41] := rfl
    have e3 : (Str.ofString "(").cps.toList = [40] := rfl
    rw [e2, e3]
    have : [40] ++ (Str.join ", " ts).cps.toList ++ [44, 41] = (40 :: (Str.join ", " ts).cps.toList ++ [44]) ++ [41] := by simp
    rw [this]
    exact ((j.cons (by decide)).snoc (by decide)).snoc (by decide)
  · have e2 : (Str.ofString ")").cps.toList = [41] := rfl
    have e3 : (Str.ofString "(").cps.toList = [40] := rfl
    rw [e2, e3]
    exact (j.cons (by decide)).snoc (by decide)
theorem NoQ.from_ {w : List Nat} (hw : 44 ∉ w) : ∀ {ts : List Str} {k : Nat} {acc : Str}, NoQ w acc.cps.toList → (∀ t ∈ ts, NoQ w t.cps.toList) → NoQ w (textFrom (k + 1) acc ts).cps.toList
  | [], _, _, ha, _ => ha
  | t :: r, k, acc, ha, h => by
    have e1 : ∀ a b : Str, (a ++ b).cps.toList = a.cps.toList ++ b.cps.toList := fun a b => Array.toList_append
    refine NoQ.from_ (k := k + 1) hw ?_ fun t ht => h t (List.mem_cons_of_mem _ ht)
    rw [if_pos (Nat.succ_pos k), e1, e1]
    have e2 : (Str.ofString ", ").cps.toList = [44, 32] := rfl
    rw [e2, List.append_assoc]
    exact ha.sep (h t List.mem_cons_self) hw
theorem NoQ.list {w : List Nat} (hw : 44 ∉ w) {ts : List Str} (h : ∀ t ∈ ts, NoQ w t.cps.toList) : NoQ w (listText ts).cps.toList := by
  have e1 : ∀ a b : Str, (a ++ b).cps.toList = a.cps.toList ++ b.cps.toList := fun a b => Array.toList_append
  have e3 : (Str.ofString "]").cps.toList = [93] := rfl
  unfold listText
  rw [e1, e3]
  refine NoQ.snoc ?_ (by decide)
  cases ts with
  | nil => exact NoQ.none (by decide +kernel)
  | cons t r =>
    refine NoQ.from_ (k := 0) hw ?_ fun t ht => h t (List.mem_cons_of_mem _ ht)
    rw [if_neg (by decide), e1, e1]
    have e2 : (Str.ofString "").cps.toList = [] := rfl
    have e4 : (Str.ofString "[").cps.toList = [91] := rfl
    rw [e2, e4]
    exact (h t List.mem_cons_self).cons (by decide)
/-- letters -/
def Let_ (z : Str) : Prop := ∀ c ∈ z.cps.toList, 65 ≤ c ∧ c ≤ 122 ∧ c ≠ 92
theorem repr_let {z : Str} (h : Let_ z) : (reprText z).cps.toList = 39 :: (z.cps.toList ++ [39]) := by
  have hq : reprQuote z = 39 := by
    unfold reprQuote
    have : z.cps.contains 39 = false := by
      rw [Array.contains_eq_any_beq]
      rw [← Array.any_toList, List.any_eq_false]
      intro c hc hb
      have : 39 = c := by simpa using hb
      have := h c hc
      omega
    rw [this]; rfl
  have hch : ∀ c, 65 ≤ c → c ≤ 122 → c ≠ 92 → Builtin.Str.reprChar 39 c = [c] := by
    intro c h1 h2 h3
    have : ∀ c, c < 123 → 65 ≤ c → c ≠ 92 → Builtin.Str.reprChar 39 c = [c] := by decide +kernel
    exact this c (by omega) h1 h3
  have key : ∀ (l : List Nat) (acc : Array Nat), (∀ c ∈ l, 65 ≤ c ∧ c ≤ 122 ∧ c ≠ 92) → (l.foldl (fun out c => out ++ (Builtin.Str.reprChar 39 c).toArray) acc).toList = acc.toList ++ l := by
    intro l
    induction l with
    | nil => intro acc _; simp
    | cons c l ih =>
      intro acc hl
      obtain ⟨h1, h2, h3⟩ := hl c List.mem_cons_self
      rw [List.foldl_cons, ih _ (fun d hd => hl d (List.mem_cons_of_mem _ hd)), hch c h1 h2 h3]
      simp
  unfold reprText
  show (Array.push _ _).toList = _
  rw [Array.toList_push, hq, ← Array.foldl_toList, key _ _ h]
  simp
theorem noq_in {w z : Str} (hw : Let_ w) (h : NoQ w.cps.toList z.cps.toList) : (Builtin.Str.occurrences z (reprText w) 0 z.length 1).isEmpty = true := by
  cases e : (Builtin.Str.occurrences z (reprText w) 0 z.length 1).isEmpty with
  | true => rfl
  | false =>
    exfalso
    obtain ⟨i, hi, hs⟩ := (StrLaws.found_iff z (reprText w)).mp (by rw [e]; rfl)
    rw [StrLaws.subAt_eq, beq_iff_eq, repr_let hw] at hs
    have h1 : z.cps.toList = z.cps.toList.take i ++ ((z.cps.toList.drop i).take (reprText w).length ++ (z.cps.toList.drop i).drop (reprText w).length) := by
      rw [List.take_append_drop, List.take_append_drop]
    rw [hs] at h1
    have h2 : z.cps.toList = z.cps.toList.take i ++ (39 :: (w.cps.toList ++ 39 :: (z.cps.toList.drop i).drop (reprText w).length)) := by
      conv => lhs; rw [h1]
      simp
    exact h _ _ h2

/-! ### data that is shown: how long its text is at most, how deep; what does not stand in it -/
mutual
def szD : D → Nat
  | .str _ => 10
  | .int _ => 60
  | .bl _ => 5
  | .non => 4
  | .tup xs => szL xs + 3
  | .lst xs => szL xs + 3
  | _ => 0
def szL : List D → Nat
  | [] => 0
  | x :: xs => szD x + 2 + szL xs
end
mutual
def dpD : D → Nat
  | .tup xs => dpL xs + 1
  | .lst xs => dpL xs + 1
  | _ => 0
def dpL : List D → Nat
  | [] => 0
  | x :: xs => max (dpD x) (dpL xs)
end
/-- an int whose text is short and has no quote in it -/
def intOk (i : Int) : Bool := decide (i.natAbs.log2 < 1920) && (decide ((toString i : Str).length ≤ 60) && (!(toString i : Str).cps.toList.contains 39))
mutual
/-- texts are of letters, at most eight, none of them is of Av; ints are short -/
def PlD (Av : List Str) : D → Prop
  | .str z => Let_ z ∧ z.length ≤ 8 ∧ z ∉ Av
  | .int i => intOk i = true
  | .bl _ => True
  | .non => True
  | .tup xs => PlL Av xs
  | .lst xs => PlL Av xs
  | _ => False
def PlL (Av : List Str) : List D → Prop
  | [] => True
  | x :: xs => PlD Av x ∧ PlL Av xs
end
structure Shq (Av : List Str) (k d : Nat) (v : D) : Prop where
  ex : ∃ p, toPy v = some p ∧ p.showable = true ∧ p.shown.length ≤ k ∧ p.depth ≤ d ∧ ∀ w ∈ Av, NoQ w.cps.toList p.shown.cps.toList
structure ShqL (Av : List Str) (k d : Nat) (xs : List D) : Prop where
  ex : ∃ ps, toPyL xs = some ps ∧ PyData.showableAll ps = true ∧ ((PyData.shownAll ps).map (·.length)).sum + 2 * xs.length ≤ k ∧ PyData.depthAll ps ≤ d ∧ (PyData.shownAll ps).length = xs.length ∧ ∀ w ∈ Av, ∀ t ∈ PyData.shownAll ps, NoQ w.cps.toList t.cps.toList
theorem let_q {z : Str} (h : Let_ z) : 39 ∉ z.cps.toList := fun hm => by have := h 39 hm; omega
theorem let_c {z : Str} (h : Let_ z) : 44 ∉ z.cps.toList := fun hm => by have := h 44 hm; omega
theorem str_ne {z w : Str} (h : z ≠ w) : z.cps.toList ≠ w.cps.toList := fun e => h (by
  cases z; cases w
  simp only [Str.mk.injEq]
  exact Array.toList_inj.mp e)
mutual
theorem shq_of {Av : List Str} (hav : ∀ w ∈ Av, Let_ w) : ∀ (v : D), PlD Av v → Shq Av (szD v) (dpD v) v
  | .str z, h => by
    simp only [PlD] at h
    obtain ⟨h1, h2, h3⟩ := h
    refine ⟨.str z, by simp only [toPy], rfl, ?_, by simp only [PyData.depth]; exact Nat.le_refl _, fun w hw => ?_⟩
    · simp only [PyData.shown, szD]
      have e := congrArg List.length (repr_let h1)
      rw [List.length_cons, List.length_append, List.length_cons, List.length_nil] at e
      have e1 : (reprText z).cps.toList.length = (reprText z).length := Array.length_toList
      have e2 : z.cps.toList.length = z.length := Array.length_toList
      omega
    · simp only [PyData.shown]
      rw [repr_let h1]
      exact NoQ.word (let_q h1) (let_q (hav w hw)) (str_ne fun e => h3 (e ▸ hw))
  | .int i, h => by
    simp only [PlD, intOk, Bool.and_eq_true, Bool.not_eq_true', decide_eq_true_eq] at h
    obtain ⟨h1, h2, h3⟩ := h
    refine ⟨.int i, by simp only [toPy], by simpa [PyData.showable] using h1, ?_, by simp only [PyData.depth]; exact Nat.le_refl _, fun w hw => NoQ.none ?_⟩
    · simp only [PyData.shown, szD]; exact h2
    · simp only [PyData.shown]
      intro hm
      have : (toString i : Str).cps.toList.contains 39 = true := by simpa using hm
      rw [h3] at this; cases this
  | .bl b, _ => ⟨.bool b, by simp only [toPy], rfl, by simp only [szD]; cases b <;> decide +kernel, by simp only [PyData.depth]; exact Nat.le_refl _, fun w hw => NoQ.none (by cases b <;> decide +kernel)⟩
  | .non, _ => ⟨.none, by simp only [toPy], rfl, by simp only [szD]; decide +kernel, by simp only [PyData.depth]; exact Nat.le_refl _, fun w hw => NoQ.none (by decide +kernel)⟩
  | .tup xs, h => by
    simp only [PlD] at h
    obtain ⟨ps, e, a, b, c, l, q⟩ := (shqL_of hav xs h).ex
    refine ⟨.tuple ps, by simp only [toPy, e, Option.map_some], by simp only [PyData.showable, a], ?_, by simp only [PyData.depth, dpD]; omega, fun w hw => ?_⟩
    · simp only [PyData.shown, szD]
      have h1 := tupleText_len_le (PyData.shownAll ps)
      rw [l] at h1
      omega
    · simp only [PyData.shown]
      exact NoQ.tuple (let_c (hav w hw)) (q w hw)
  | .lst xs, h => by
    simp only [PlD] at h
    obtain ⟨ps, e, a, b, c, l, q⟩ := (shqL_of hav xs h).ex
    refine ⟨.list ps, by simp only [toPy, e, Option.map_some], by simp only [PyData.showable, a], ?_, by simp only [PyData.depth, dpD]; omega, fun w hw => ?_⟩
    · simp only [PyData.shown, szD]
      have h1 := listText_len_le (PyData.shownAll ps)
      rw [l] at h1
      omega
    · simp only [PyData.shown]
      exact NoQ.list (let_c (hav w hw)) (q w hw)
  | .ref _, h => by simp only [PlD] at h
  | .fn _, h => by simp only [PlD] at h
  | .ty _, h => by simp only [PlD] at h
  | .cl _, h => by simp only [PlD] at h
  | .scr _, h => by simp only [PlD] at h
  | .dic _ _, h => by simp only [PlD] at h
theorem shqL_of {Av : List Str} (hav : ∀ w ∈ Av, Let_ w) : ∀ (xs : List D), PlL Av xs → ShqL Av (szL xs) (dpL xs) xs
  | [], _ => ⟨[], rfl, rfl, Nat.le_refl _, Nat.le_refl _, rfl, fun w hw t ht => by simp [PyData.shownAll] at ht⟩
  | x :: xs, h => by
    simp only [PlL] at h
    obtain ⟨p, e, a, b, c, q⟩ := (shq_of hav x h.1).ex
    obtain ⟨ps, e2, a2, b2, c2, l2, q2⟩ := (shqL_of hav xs h.2).ex
    refine ⟨p :: ps, by simp only [toPyL, e, e2], by simp only [PyData.showableAll, a, a2]; rfl, ?_, ?_, by simp only [PyData.shownAll, List.length_cons, l2], fun w hw t ht => ?_⟩
    · simp only [PyData.shownAll, List.map_cons, List.sum_cons, List.length_cons, szL]
      omega
    · simp only [PyData.depthAll, dpL]
      exact Nat.max_le.mpr ⟨Nat.le_trans c (Nat.le_max_left _ _), Nat.le_trans c2 (Nat.le_max_right _ _)⟩
    · simp only [PyData.shownAll, List.mem_cons] at ht
      rcases ht with rfl | ht
      · exact q w hw
      · exact q2 w hw t ht
end

/-! ### small lemmas about lists of data -/
theorem szL_append (xs ys : List D) : szL (xs ++ ys) = szL xs + szL ys := by
  induction xs with
  | nil => simp [szL]
  | cons x xs ih => simp only [List.cons_append, szL, ih]; omega
theorem szL_le {k : Nat} : ∀ {xs : List D}, (∀ x ∈ xs, szD x ≤ k) → szL xs ≤ xs.length * (k + 2)
  | [], _ => by simp [szL]
  | x :: xs, h => by
    have h1 := h x List.mem_cons_self
    have h2 := szL_le fun y hy => h y (List.mem_cons_of_mem _ hy)
    simp only [szL, List.length_cons, Nat.add_mul]
    omega
theorem dpL_le {k : Nat} : ∀ {xs : List D}, (∀ x ∈ xs, dpD x ≤ k) → dpL xs ≤ k
  | [], _ => by simp [dpL]
  | x :: xs, h => by
    simp only [dpL]
    exact Nat.max_le.mpr ⟨h x List.mem_cons_self, dpL_le fun y hy => h y (List.mem_cons_of_mem _ hy)⟩
theorem plL_of {Av : List Str} : ∀ {xs : List D}, (∀ x ∈ xs, PlD Av x) → PlL Av xs
  | [], _ => by simp [PlL]
  | x :: xs, h => by
    simp only [PlL]
    exact ⟨h x List.mem_cons_self, plL_of fun y hy => h y (List.mem_cons_of_mem _ hy)⟩
theorem plL_mem {Av : List Str} : ∀ {xs : List D}, PlL Av xs → ∀ x ∈ xs, PlD Av x
  | [], _, x, hx => by cases hx
  | y :: xs, h, x, hx => by
    simp only [PlL] at h
    rcases List.mem_cons.mp hx with rfl | hx
    · exact h.1
    · exact plL_mem h.2 x hx

/-! ### words, expressions, items -/
def Low (z : Str) : Prop := (1 ≤ z.length ∧ z.length ≤ 8) ∧ ∀ c ∈ z.cps.toList, 97 ≤ c ∧ c ≤ 122
def Upp (z : Str) : Prop := (1 ≤ z.length ∧ z.length ≤ 4) ∧ ∀ c ∈ z.cps.toList, 65 ≤ c ∧ c ≤ 90
def Fit (z : Str) : Prop := Low z ∨ Upp z
theorem Low.let_ {z : Str} (h : Low z) : Let_ z := fun c hc => by have := h.2 c hc; omega
theorem Upp.let_ {z : Str} (h : Upp z) : Let_ z := fun c hc => by have := h.2 c hc; omega
theorem Fit.let_ {z : Str} (h : Fit z) : Let_ z := h.elim Low.let_ Upp.let_
theorem Fit.len {z : Str} (h : Fit z) : z.length ≤ 8 := h.elim (fun h => h.1.2) fun h => by have := h.1.2; omega
theorem Low.ne {z w : Str} (h : Low z) (g : Upp w) : z ≠ w := fun e => by
  subst e
  have h1 : 0 < z.cps.toList.length := by
    have : 1 ≤ z.cps.size := h.1.1
    rw [Array.length_toList]; omega
  have := h.2 _ (List.getElem_mem h1)
  have := g.2 _ (List.getElem_mem h1)
  omega
def lowB (z : Str) : Bool := decide (1 ≤ z.length) && (decide (z.length ≤ 8) && z.cps.toList.all fun c => decide (97 ≤ c) && decide (c ≤ 122))
theorem low_of {z : Str} (h : lowB z = true) : Low z := by
  unfold lowB at h
  simp only [Bool.and_eq_true, decide_eq_true_eq, List.all_eq_true] at h
  exact ⟨⟨h.1, h.2.1⟩, h.2.2⟩
def uppB (z : Str) : Bool := decide (1 ≤ z.length) && (decide (z.length ≤ 4) && z.cps.toList.all fun c => decide (65 ≤ c) && decide (c ≤ 90))
theorem upp_of {z : Str} (h : uppB z = true) : Upp z := by
  unfold uppB at h
  simp only [Bool.and_eq_true, decide_eq_true_eq, List.all_eq_true] at h
  exact ⟨⟨h.1, h.2.1⟩, h.2.2⟩
def pathD (s : Str) (ws : List Str) : D := .tup (.str s :: ws.map .str)
def opS : Nat → Str
  | 0 => "add"
  | 1 => "sub"
  | _ => "if"
inductive Tm where
  | num (i : Int)
  | ref (s : Str) (ws : List Str)
  | op (k : Nat) (ts : List Tm)
mutual
def Tm.d : Tm → D
  | .num i => .tup [.str "num", .int i]
  | .ref s ws => .tup [.str "ref", pathD s ws]
  | .op k ts => .tup (.str (opS k) :: Tm.ds ts)
def Tm.ds : List Tm → List D
  | [] => []
  | t :: ts => t.d :: Tm.ds ts
end
theorem Tm.ds_map : ∀ ts : List Tm, Tm.ds ts = ts.map Tm.d
  | [] => rfl
  | t :: ts => by rw [Tm.ds, Tm.ds_map ts]; rfl
mutual
def Tm.fill (f : Str → Str) : Tm → Tm
  | .num i => .num i
  | .ref s ws => .ref s (ws.map f)
  | .op k ts => .op k (Tm.fills f ts)
def Tm.fills (f : Str → Str) : List Tm → List Tm
  | [] => []
  | t :: ts => t.fill f :: Tm.fills f ts
end
theorem Tm.fills_map (f : Str → Str) : ∀ ts : List Tm, Tm.fills f ts = ts.map (Tm.fill f)
  | [] => rfl
  | t :: ts => by rw [Tm.fills, Tm.fills_map f ts]; rfl
inductive It where
  | gap
  | fn (w : Str) (t : Tm) (b : Bool)
  | use (w s : Str) (ws : List Str) (b : Bool)
  | glob (s : Str) (ws : List Str) (b : Bool)
  | call (s : Str) (ws as : List Str)
  | mod (w : Str) (body : List It) (b : Bool)
  | mac (w : Str) (ps : List Str) (body : List It) (b : Bool)
mutual
def It.d : It → D
  | .gap => .tup [.str "gap"]
  | .fn w t b => .tup [.str "fn", .str w, t.d, .bl b]
  | .use w s ws b => .tup [.str "use", .str w, pathD s ws, .bl b]
  | .glob s ws b => .tup [.str "glob", pathD s ws, .bl b]
  | .call s ws as => .tup [.str "call", pathD s ws, .tup (as.map .str)]
  | .mod w body b => .tup [.str "mod", .str w, .tup (It.ds body), .bl b]
  | .mac w ps body b => .tup [.str "macro", .str w, .tup (ps.map .str), .tup (It.ds body), .bl b]
def It.ds : List It → List D
  | [] => []
  | t :: ts => t.d :: It.ds ts
end
theorem It.ds_map : ∀ ts : List It, It.ds ts = ts.map It.d
  | [] => rfl
  | t :: ts => by rw [It.ds, It.ds_map ts]; rfl
abbrev bodyD (b : List It) : D := .tup (b.map It.d)
mutual
def It.fill (f : Str → Str) : It → It
  | .gap => .gap
  | .fn w t b => .fn (f w) (t.fill f) b
  | .use w s ws b => .use (f w) s (ws.map f) b
  | .glob s ws b => .glob s (ws.map f) b
  | .call s ws as => .call s (ws.map f) (as.map f)
  | .mod w body b => .mod (f w) (It.fills f body) b
  | .mac w ps body b => .mac (f w) ps (It.fills f body) b
def It.fills (f : Str → Str) : List It → List It
  | [] => []
  | t :: ts => t.fill f :: It.fills f ts
end
theorem It.fills_map (f : Str → Str) : ∀ ts : List It, It.fills f ts = ts.map (It.fill f)
  | [] => rfl
  | t :: ts => by rw [It.fills, It.fills_map f ts]; rfl
/-- an expression at most n deep, of words that fit -/
def Tm.Ok : Nat → Tm → Prop
  | 0, _ => False
  | _ + 1, .num i => intOk i = true
  | _ + 1, .ref s ws => Low s ∧ ws.length ≤ 6 ∧ ∀ w ∈ ws, Fit w
  | n + 1, .op _ ts => ts.length ≤ 3 ∧ ∀ t ∈ ts, Tm.Ok n t
/-- an item with at most n bodies inside of one another; m: how many items there are at most in a body -/
def It.Ok (m : Nat) : Nat → It → Prop
  | _, .gap => True
  | _, .fn w t _ => Fit w ∧ t.Ok 5
  | _, .use w s ws _ => Fit w ∧ Low s ∧ ws.length ≤ 6 ∧ ∀ w ∈ ws, Fit w
  | _, .glob s ws _ => Low s ∧ ws.length ≤ 6 ∧ ∀ w ∈ ws, Fit w
  | _, .call s ws as => (Low s ∧ ws.length ≤ 6 ∧ ∀ w ∈ ws, Fit w) ∧ as.length ≤ 3 ∧ ∀ w ∈ as, Fit w
  | 0, .mod _ _ _ => False
  | n + 1, .mod w body _ => Fit w ∧ body.length ≤ m ∧ ∀ i ∈ body, It.Ok m n i
  | 0, .mac _ _ _ _ => False
  | n + 1, .mac w ps body _ => Fit w ∧ (ps.length ≤ 5 ∧ ∀ p ∈ ps, Upp p) ∧ body.length ≤ m ∧ ∀ i ∈ body, It.Ok m n i
/-- the parameters of macros are none of own, and none of those around them -/
def It.Good : Nat → List Str → It → Prop
  | n + 1, own, .mod _ body _ => ∀ i ∈ body, It.Good n own i
  | n + 1, own, .mac _ ps body _ => (∀ p ∈ ps, p ∉ own) ∧ ∀ i ∈ body, It.Good n (own ++ ps) i
  | _, _, _ => True
theorem opS_low (k : Nat) : Low (opS k) := by
  match k with
  | 0 => exact low_of (by decide +kernel)
  | 1 => exact low_of (by decide +kernel)
  | k + 2 => exact low_of (show lowB "if" = true by decide +kernel)
theorem Tm.Ok.fill {f : Str → Str} (hf : ∀ w, Fit w → Fit (f w)) : ∀ {n : Nat} {t : Tm}, t.Ok n → (t.fill f).Ok n
  | n + 1, .num i, h => by simpa [Tm.fill, Tm.Ok] using h
  | n + 1, .ref s ws, h => by
    simp only [Tm.fill, Tm.Ok] at h ⊢
    refine ⟨h.1, by simpa using h.2.1, fun w hw => ?_⟩
    obtain ⟨v, hv, rfl⟩ := List.mem_map.mp hw
    exact hf v (h.2.2 v hv)
  | n + 1, .op k ts, h => by
    simp only [Tm.fill, Tm.Ok, Tm.fills_map] at h ⊢
    refine ⟨by simpa using h.1, fun t ht => ?_⟩
    obtain ⟨u, hu, rfl⟩ := List.mem_map.mp ht
    exact (h.2 u hu).fill hf
theorem It.Ok.fill {m : Nat} {f : Str → Str} (hf : ∀ w, Fit w → Fit (f w)) : ∀ {n : Nat} {t : It}, t.Ok m n → (t.fill f).Ok m n
  | n, .gap, h => by simp [It.fill, It.Ok]
  | n, .fn w t b, h => by
    simp only [It.fill, It.Ok] at h ⊢
    exact ⟨hf w h.1, h.2.fill hf⟩
  | n, .use w s ws b, h => by
    simp only [It.fill, It.Ok] at h ⊢
    exact ⟨hf w h.1, h.2.1, by simpa using h.2.2.1, fun v hv => let ⟨u, hu, e⟩ := List.mem_map.mp hv; e ▸ hf u (h.2.2.2 u hu)⟩
  | n, .glob s ws b, h => by
    simp only [It.fill, It.Ok] at h ⊢
    exact ⟨h.1, by simpa using h.2.1, fun v hv => let ⟨u, hu, e⟩ := List.mem_map.mp hv; e ▸ hf u (h.2.2 u hu)⟩
  | n, .call s ws as, h => by
    simp only [It.fill, It.Ok] at h ⊢
    exact ⟨⟨h.1.1, by simpa using h.1.2.1, fun v hv => let ⟨u, hu, e⟩ := List.mem_map.mp hv; e ▸ hf u (h.1.2.2 u hu)⟩, by simpa using h.2.1, fun v hv => let ⟨u, hu, e⟩ := List.mem_map.mp hv; e ▸ hf u (h.2.2 u hu)⟩
  | 0, .mod w body b, h => by simp [It.Ok] at h
  | n + 1, .mod w body b, h => by
    simp only [It.fill, It.Ok, It.fills_map] at h ⊢
    refine ⟨hf w h.1, by simpa using h.2.1, fun i hi => ?_⟩
    obtain ⟨u, hu, rfl⟩ := List.mem_map.mp hi
    exact (h.2.2 u hu).fill hf
  | 0, .mac w ps body b, h => by simp [It.Ok] at h
  | n + 1, .mac w ps body b, h => by
    simp only [It.fill, It.Ok, It.fills_map] at h ⊢
    refine ⟨hf w h.1, h.2.1, by simpa using h.2.2.1, fun i hi => ?_⟩
    obtain ⟨u, hu, rfl⟩ := List.mem_map.mp hi
    exact (h.2.2.2 u hu).fill hf
theorem It.Good.fill {f : Str → Str} : ∀ {n : Nat} {own : List Str} {t : It}, t.Good n own → (t.fill f).Good n own
  | _, _, .gap, _ => by simp [It.fill, It.Good]
  | _, _, .fn _ _ _, _ => by simp [It.fill, It.Good]
  | _, _, .use _ _ _ _, _ => by simp [It.fill, It.Good]
  | _, _, .glob _ _ _, _ => by simp [It.fill, It.Good]
  | _, _, .call _ _ _, _ => by simp [It.fill, It.Good]
  | 0, _, .mod _ _ _, _ => by simp [It.fill, It.Good]
  | n + 1, own, .mod w body b, h => by
    simp only [It.fill, It.Good, It.fills_map] at h ⊢
    intro i hi
    obtain ⟨u, hu, rfl⟩ := List.mem_map.mp hi
    exact (h u hu).fill
  | 0, _, .mac _ _ _ _, _ => by simp [It.fill, It.Good]
  | n + 1, own, .mac w ps body b, h => by
    simp only [It.fill, It.Good, It.fills_map] at h ⊢
    refine ⟨h.1, fun i hi => ?_⟩
    obtain ⟨u, hu, rfl⟩ := List.mem_map.mp hi
    exact (h.2 u hu).fill
theorem It.Good.sub : ∀ {n : Nat} {own own' : List Str} {t : It}, t.Good n own → (∀ p ∈ own', p ∈ own) → t.Good n own'
  | _, _, _, .gap, _, _ => by simp [It.Good]
  | _, _, _, .fn _ _ _, _, _ => by simp [It.Good]
  | _, _, _, .use _ _ _ _, _, _ => by simp [It.Good]
  | _, _, _, .glob _ _ _, _, _ => by simp [It.Good]
  | _, _, _, .call _ _ _, _, _ => by simp [It.Good]
  | 0, _, _, .mod _ _ _, _, _ => by simp [It.Good]
  | n + 1, own, own', .mod w body b, h, s => by
    simp only [It.Good] at h ⊢
    exact fun i hi => (h i hi).sub s
  | 0, _, _, .mac _ _ _ _, _, _ => by simp [It.Good]
  | n + 1, own, own', .mac w ps body b, h, s => by
    simp only [It.Good] at h ⊢
    exact ⟨fun p hp z => h.1 p hp (s p z), fun i hi => (h.2 i hi).sub fun p hp => by
      rcases List.mem_append.mp hp with hp | hp
      · exact List.mem_append_left _ (s p hp)
      · exact List.mem_append_right _ hp⟩
/-! what is shown of them -/
theorem str_pl {Av : List Str} {z : Str} (h : Fit z) (ha : z ∉ Av) : PlD Av (.str z) := by simp only [PlD]; exact ⟨h.let_, h.len, ha⟩
theorem low_pl {Av : List Str} (hav : ∀ w ∈ Av, Upp w) {z : Str} (h : Low z) : PlD Av (.str z) := str_pl (.inl h) fun hm => h.ne (hav z hm) rfl
theorem strs_pl {Av : List Str} {zs : List Str} (h : ∀ z ∈ zs, Fit z) (ha : ∀ z ∈ zs, z ∉ Av) : PlL Av (zs.map .str) := plL_of fun x hx => by
  obtain ⟨z, hz, rfl⟩ := List.mem_map.mp hx
  exact str_pl (h z hz) (ha z hz)
theorem strs_sz (zs : List Str) : szL (zs.map .str) = zs.length * 12 := by
  induction zs with
  | nil => rfl
  | cons z zs ih => simp only [List.map_cons, szL, szD, ih, List.length_cons, Nat.add_mul]; omega
theorem strs_dp (zs : List Str) : dpL (zs.map .str) = 0 := by
  induction zs with
  | nil => rfl
  | cons z zs ih => simp only [List.map_cons, dpL, dpD, ih]; rfl
theorem path_pl {Av : List Str} (hav : ∀ w ∈ Av, Upp w) {s : Str} {ws : List Str} (h : Low s) (hw : ∀ w ∈ ws, Fit w) (ha : ∀ w ∈ ws, w ∉ Av) : PlD Av (pathD s ws) := by
  simp only [pathD, PlD, PlL]
  exact ⟨by have := low_pl hav h; simpa only [PlD] using this, strs_pl hw ha⟩
theorem path_sz {s : Str} {ws : List Str} (h : ws.length ≤ 6) : szD (pathD s ws) ≤ 87 := by
  simp only [pathD, szD, szL, strs_sz]; omega
theorem path_dp {s : Str} {ws : List Str} : dpD (pathD s ws) = 1 := by
  simp only [pathD, dpD, dpL, strs_dp]; rfl
def tmB : Nat → Nat
  | 0 => 0
  | n + 1 => 3 * tmB n + 120
theorem Tm.sz_le : ∀ {n : Nat} {t : Tm}, t.Ok n → szD t.d ≤ tmB n
  | n + 1, .num i, h => by simp only [Tm.d, szD, szL, tmB]; omega
  | n + 1, .ref s ws, h => by
    simp only [Tm.Ok] at h
    have := path_sz (s := s) h.2.1
    simp only [Tm.d, szD, szL, tmB]; omega
  | n + 1, .op k ts, h => by
    simp only [Tm.Ok] at h
    have h1 : szL (ts.map Tm.d) ≤ ts.length * (tmB n + 2) := by
      have := szL_le (k := tmB n) (xs := ts.map Tm.d) fun x hx => by
        obtain ⟨t, ht, rfl⟩ := List.mem_map.mp hx
        exact Tm.sz_le (h.2 t ht)
      simpa using this
    have h2 := Nat.mul_le_mul_right (tmB n + 2) h.1
    simp only [Tm.d, szD, szL, tmB, Tm.ds_map]; omega
theorem Tm.dp_le : ∀ {n : Nat} {t : Tm}, t.Ok n → dpD t.d ≤ n + 1
  | n + 1, .num i, h => by simp [Tm.d, dpD, dpL]
  | n + 1, .ref s ws, h => by
    simp only [Tm.d, dpD, dpL, path_dp]; simp
  | n + 1, .op k ts, h => by
    simp only [Tm.Ok] at h
    have h1 : dpL (ts.map Tm.d) ≤ n + 1 := dpL_le fun x hx => by
      obtain ⟨t, ht, rfl⟩ := List.mem_map.mp hx
      exact Tm.dp_le (h.2 t ht)
    simp only [Tm.d, dpD, dpL, Tm.ds_map]
    omega
/-- words that are none of Av -/
def Tm.Av (Av : List Str) : Nat → Tm → Prop
  | 0, _ => True
  | _ + 1, .num _ => True
  | _ + 1, .ref _ ws => ∀ w ∈ ws, w ∉ Av
  | n + 1, .op _ ts => ∀ t ∈ ts, Tm.Av Av n t
theorem Tm.pl {Av : List Str} (hav : ∀ w ∈ Av, Upp w) : ∀ {n : Nat} {t : Tm}, t.Ok n → t.Av Av n → PlD Av t.d
  | n + 1, .num i, h, _ => by
    simp only [Tm.d, PlD, PlL]
    exact ⟨by have := low_pl hav (z := "num") (low_of (by decide +kernel)); simpa only [PlD] using this, h, trivial⟩
  | n + 1, .ref s ws, h, a => by
    simp only [Tm.Ok, Tm.Av] at h a
    simp only [Tm.d, PlD, PlL]
    exact ⟨by have := low_pl hav (z := "ref") (low_of (by decide +kernel)); simpa only [PlD] using this, path_pl hav h.1 h.2.2 a, trivial⟩
  | n + 1, .op k ts, h, a => by
    simp only [Tm.Ok, Tm.Av] at h a
    simp only [Tm.d, PlD, PlL, Tm.ds_map]
    refine ⟨by have := low_pl hav (opS_low k); simpa only [PlD] using this, plL_of fun x hx => ?_⟩
    obtain ⟨t, ht, rfl⟩ := List.mem_map.mp hx
    exact Tm.pl hav (h.2 t ht) (a t ht)
def It.Av (Av : List Str) : Nat → It → Prop
  | _, .gap => True
  | _, .fn w t _ => w ∉ Av ∧ t.Av Av 5
  | _, .use w _ ws _ => w ∉ Av ∧ ∀ w ∈ ws, w ∉ Av
  | _, .glob _ ws _ => ∀ w ∈ ws, w ∉ Av
  | _, .call _ ws as => (∀ w ∈ ws, w ∉ Av) ∧ ∀ w ∈ as, w ∉ Av
  | 0, _ => True
  | n + 1, .mod w body _ => w ∉ Av ∧ ∀ i ∈ body, It.Av Av n i
  | n + 1, .mac w ps body _ => w ∉ Av ∧ (∀ p ∈ ps, p ∉ Av) ∧ ∀ i ∈ body, It.Av Av n i
def itB (m : Nat) : Nat → Nat
  | 0 => tmB 5 + 300
  | n + 1 => m * (itB m n + 2) + tmB 5 + 300
theorem itB_ge (m n : Nat) : tmB 5 + 300 ≤ itB m n := by cases n <;> simp only [itB] <;> omega
theorem It.sz_le {m : Nat} : ∀ {n : Nat} {t : It}, t.Ok m n → szD t.d ≤ itB m n
  | n, .gap, h => by have := itB_ge m n; simp only [It.d, szD, szL]; omega
  | n, .fn w t b, h => by
    simp only [It.Ok] at h
    have h1 := Tm.sz_le h.2
    have := itB_ge m n; simp only [It.d, szD, szL]; omega
  | n, .use w s ws b, h => by
    simp only [It.Ok] at h
    have h1 := path_sz (s := s) h.2.2.1
    have := itB_ge m n; simp only [It.d, szD, szL]; omega
  | n, .glob s ws b, h => by
    simp only [It.Ok] at h
    have h1 := path_sz (s := s) h.2.1
    have := itB_ge m n; simp only [It.d, szD, szL]; omega
  | n, .call s ws as, h => by
    simp only [It.Ok] at h
    have h1 := path_sz (s := s) h.1.2.1
    have h2 := strs_sz as
    have := itB_ge m n; simp only [It.d, szD, szL, h2]; omega
  | 0, .mod w body b, h => by simp [It.Ok] at h
  | n + 1, .mod w body b, h => by
    simp only [It.Ok] at h
    have h1 : szL (body.map It.d) ≤ body.length * (itB m n + 2) := by
      have := szL_le (k := itB m n) (xs := body.map It.d) fun x hx => by
        obtain ⟨t, ht, rfl⟩ := List.mem_map.mp hx
        exact It.sz_le (h.2.2 t ht)
      simpa using this
    have h2 := Nat.mul_le_mul_right (itB m n + 2) h.2.1
    simp only [It.d, szD, szL, itB, It.ds_map]; omega
  | 0, .mac w ps body b, h => by simp [It.Ok] at h
  | n + 1, .mac w ps body b, h => by
    simp only [It.Ok] at h
    have h1 : szL (body.map It.d) ≤ body.length * (itB m n + 2) := by
      have := szL_le (k := itB m n) (xs := body.map It.d) fun x hx => by
        obtain ⟨t, ht, rfl⟩ := List.mem_map.mp hx
        exact It.sz_le (h.2.2.2 t ht)
      simpa using this
    have h2 := Nat.mul_le_mul_right (itB m n + 2) h.2.2.1
    have h3 := strs_sz ps
    simp only [It.d, szD, szL, itB, It.ds_map, h3]; omega
theorem It.dp_le {m : Nat} : ∀ {n : Nat} {t : It}, t.Ok m n → dpD t.d ≤ 2 * n + 7
  | n, .gap, h => by simp [It.d, dpD, dpL]
  | n, .fn w t b, h => by
    simp only [It.Ok] at h
    have h1 := Tm.dp_le h.2
    simp only [It.d, dpD, dpL]; omega
  | n, .use w s ws b, h => by simp only [It.d, dpD, dpL, path_dp]; omega
  | n, .glob s ws b, h => by simp only [It.d, dpD, dpL, path_dp]; omega
  | n, .call s ws as, h => by simp only [It.d, dpD, dpL, path_dp, strs_dp]; omega
  | 0, .mod w body b, h => by simp [It.Ok] at h
  | n + 1, .mod w body b, h => by
    simp only [It.Ok] at h
    have h1 : dpL (body.map It.d) ≤ 2 * n + 7 := dpL_le fun x hx => by
      obtain ⟨t, ht, rfl⟩ := List.mem_map.mp hx
      exact It.dp_le (h.2.2 t ht)
    simp only [It.d, dpD, dpL, It.ds_map]; omega
  | 0, .mac w ps body b, h => by simp [It.Ok] at h
  | n + 1, .mac w ps body b, h => by
    simp only [It.Ok] at h
    have h1 : dpL (body.map It.d) ≤ 2 * n + 7 := dpL_le fun x hx => by
      obtain ⟨t, ht, rfl⟩ := List.mem_map.mp hx
      exact It.dp_le (h.2.2.2 t ht)
    simp only [It.d, dpD, dpL, It.ds_map, strs_dp]; omega
theorem It.pl {Av : List Str} (hav : ∀ w ∈ Av, Upp w) {m : Nat} : ∀ {n : Nat} {t : It}, t.Ok m n → t.Av Av n → PlD Av t.d := by
  have L : ∀ z : Str, lowB z = true → PlD Av (.str z) := fun z h => low_pl hav (low_of h)
  intro n
  induction n with
  | zero =>
    intro t h a
    cases t with
    | gap => simp only [It.d]; rw [PlD]; exact plL_of fun x hx => by rw [List.mem_singleton.mp hx]; exact L _ (by decide +kernel)
    | fn w t b =>
      simp only [It.Ok, It.Av] at h a
      simp only [It.d]; rw [PlD]; simp only [PlL]
      exact ⟨L _ (by decide +kernel), str_pl h.1 a.1, Tm.pl hav h.2 a.2, by simp only [PlD], trivial⟩
    | use w s ws b =>
      simp only [It.Ok, It.Av] at h a
      simp only [It.d]; rw [PlD]; simp only [PlL]
      exact ⟨L _ (by decide +kernel), str_pl h.1 a.1, path_pl hav h.2.1 h.2.2.2 a.2, by simp only [PlD], trivial⟩
    | glob s ws b =>
      simp only [It.Ok, It.Av] at h a
      simp only [It.d]; rw [PlD]; simp only [PlL]
      exact ⟨L _ (by decide +kernel), path_pl hav h.1 h.2.2 a, by simp only [PlD], trivial⟩
    | call s ws as =>
      simp only [It.Ok, It.Av] at h a
      simp only [It.d]; rw [PlD]; simp only [PlL]
      exact ⟨L _ (by decide +kernel), path_pl hav h.1.1 h.1.2.2 a.1, by simp only [PlD]; exact strs_pl h.2.2 a.2, trivial⟩
    | mod w body b => simp [It.Ok] at h
    | mac w ps body b => simp [It.Ok] at h
  | succ n ih =>
    intro t h a
    cases t with
    | gap => simp only [It.d]; rw [PlD]; exact plL_of fun x hx => by rw [List.mem_singleton.mp hx]; exact L _ (by decide +kernel)
    | fn w t b =>
      simp only [It.Ok, It.Av] at h a
      simp only [It.d]; rw [PlD]; simp only [PlL]
      exact ⟨L _ (by decide +kernel), str_pl h.1 a.1, Tm.pl hav h.2 a.2, by simp only [PlD], trivial⟩
    | use w s ws b =>
      simp only [It.Ok, It.Av] at h a
      simp only [It.d]; rw [PlD]; simp only [PlL]
      exact ⟨L _ (by decide +kernel), str_pl h.1 a.1, path_pl hav h.2.1 h.2.2.2 a.2, by simp only [PlD], trivial⟩
    | glob s ws b =>
      simp only [It.Ok, It.Av] at h a
      simp only [It.d]; rw [PlD]; simp only [PlL]
      exact ⟨L _ (by decide +kernel), path_pl hav h.1 h.2.2 a, by simp only [PlD], trivial⟩
    | call s ws as =>
      simp only [It.Ok, It.Av] at h a
      simp only [It.d]; rw [PlD]; simp only [PlL]
      exact ⟨L _ (by decide +kernel), path_pl hav h.1.1 h.1.2.2 a.1, by simp only [PlD]; exact strs_pl h.2.2 a.2, trivial⟩
    | mod w body b =>
      simp only [It.Ok, It.Av] at h a
      simp only [It.d, It.ds_map]; rw [PlD]; simp only [PlL]
      refine ⟨L _ (by decide +kernel), str_pl h.1 a.1, ?_, by simp only [PlD], trivial⟩
      rw [PlD]
      exact plL_of fun x hx => by
        obtain ⟨t, ht, rfl⟩ := List.mem_map.mp hx
        exact ih (h.2.2 t ht) (a.2 t ht)
    | mac w ps body b =>
      simp only [It.Ok, It.Av] at h a
      simp only [It.d, It.ds_map]; rw [PlD]; simp only [PlL]
      refine ⟨L _ (by decide +kernel), str_pl h.1 a.1, ?_, ?_, by simp only [PlD], trivial⟩
      · rw [PlD]; exact strs_pl (fun p hp => .inr (h.2.1.2 p hp)) a.2.1
      · rw [PlD]
        exact plL_of fun x hx => by
          obtain ⟨t, ht, rfl⟩ := List.mem_map.mp hx
          exact ih (h.2.2.2 t ht) (a.2.2 t ht)
theorem Tm.av_nil : ∀ {n : Nat} {t : Tm}, t.Av [] n
  | 0, _ => trivial
  | n + 1, .num i => trivial
  | n + 1, .ref s ws => fun w _ hw => nomatch hw
  | n + 1, .op k ts => fun t ht => Tm.av_nil
theorem It.av_nil : ∀ {n : Nat} {t : It}, t.Av [] n
  | _, .gap => by simp [It.Av]
  | n, .fn w t b => by simp only [It.Av]; exact ⟨(fun h => nomatch h), Tm.av_nil⟩
  | n, .use w s ws b => by simp [It.Av]
  | n, .glob s ws b => by simp [It.Av]
  | n, .call s ws as => by simp [It.Av]
  | 0, .mod w body b => by simp [It.Av]
  | n + 1, .mod w body b => by simp only [It.Av]; exact ⟨(fun h => nomatch h), fun i hi => It.av_nil⟩
  | 0, .mac w ps body b => by simp [It.Av]
  | n + 1, .mac w ps body b => by simp only [It.Av]; exact ⟨(fun h => nomatch h), (fun _ _ h => nomatch h), fun i hi => It.av_nil⟩
/-- filled: none of own is left -/
theorem Tm.av_fill {f : Str → Str} {own : List Str} (hf : ∀ w, Fit w → f w ∉ own) : ∀ {n : Nat} {t : Tm}, t.Ok n → (t.fill f).Av own n
  | n + 1, .num i, h => by simp [Tm.fill, Tm.Av]
  | n + 1, .ref s ws, h => by
    simp only [Tm.fill, Tm.Av, Tm.Ok] at h ⊢
    intro w hw
    obtain ⟨v, hv, rfl⟩ := List.mem_map.mp hw
    exact hf v (h.2.2 v hv)
  | n + 1, .op k ts, h => by
    simp only [Tm.fill, Tm.Av, Tm.Ok, Tm.fills_map] at h ⊢
    intro t ht
    obtain ⟨u, hu, rfl⟩ := List.mem_map.mp ht
    exact Tm.av_fill hf (h.2 u hu)
theorem It.av_fill {m : Nat} {f : Str → Str} {own : List Str} (hf : ∀ w, Fit w → f w ∉ own) : ∀ {n : Nat} {t : It}, t.Ok m n → t.Good n own → (t.fill f).Av own n
  | n, .gap, h, g => by simp [It.fill, It.Av]
  | n, .fn w t b, h, g => by
    simp only [It.fill, It.Av, It.Ok] at h ⊢
    exact ⟨hf w h.1, Tm.av_fill hf h.2⟩
  | n, .use w s ws b, h, g => by
    simp only [It.fill, It.Av, It.Ok] at h ⊢
    exact ⟨hf w h.1, fun v hv => let ⟨u, hu, e⟩ := List.mem_map.mp hv; e ▸ hf u (h.2.2.2 u hu)⟩
  | n, .glob s ws b, h, g => by
    simp only [It.fill, It.Av, It.Ok] at h ⊢
    exact fun v hv => let ⟨u, hu, e⟩ := List.mem_map.mp hv; e ▸ hf u (h.2.2 u hu)
  | n, .call s ws as, h, g => by
    simp only [It.fill, It.Av, It.Ok] at h ⊢
    exact ⟨fun v hv => let ⟨u, hu, e⟩ := List.mem_map.mp hv; e ▸ hf u (h.1.2.2 u hu), fun v hv => let ⟨u, hu, e⟩ := List.mem_map.mp hv; e ▸ hf u (h.2.2 u hu)⟩
  | 0, .mod w body b, h, g => by simp [It.Ok] at h
  | n + 1, .mod w body b, h, g => by
    simp only [It.fill, It.Av, It.Ok, It.Good, It.fills_map] at h g ⊢
    refine ⟨hf w h.1, fun i hi => ?_⟩
    obtain ⟨u, hu, rfl⟩ := List.mem_map.mp hi
    exact It.av_fill hf (h.2.2 u hu) (g u hu)
  | 0, .mac w ps body b, h, g => by simp [It.Ok] at h
  | n + 1, .mac w ps body b, h, g => by
    simp only [It.fill, It.Av, It.Ok, It.Good, It.fills_map] at h g ⊢
    refine ⟨hf w h.1, g.1, fun i hi => ?_⟩
    obtain ⟨u, hu, rfl⟩ := List.mem_map.mp hi
    exact It.av_fill hf (h.2.2.2 u hu) ((g.2 u hu).sub fun p hp => List.mem_append_left _ hp)
end EV


/-! EvRA: the machine's steps, with items that go through «yield from» over a generator. -/
namespace RP
open PySem

/-- an item goes through «yield from» over the generator at a; nobody is told of it -/
def Mild (s : Shared) (t : Thread) : Prop :=
  ∃ (v : Value) (g : Bool) (l : List Value) (k : Resume → Sem PySem.Fin) (a : Addr) (r : List Value) (kw : List (Str × Value)), t.cur = .yield v g l k ∧ t.code = .builtin "proto.yield_from" ⟨.ref a :: r, kw⟩ ∧
    (∃ o, s.heap.get? a = some o ∧ o.genNumber?.isSome = true) ∧ ∀ fs b rest, splitAtGen t.stack = some (fs, b, rest) → fs.any Frame.guarded = false
def Fine (s : Shared) (t : Thread) : Prop := t.calm = true ∨ Mild s t

section
variable (den : Code → Sem PySem.Fin) (prog : Program) (w : World)
theorem life_mild (others : List Value) {s : Shared} {t : Thread} (h : Mild s t) (z : s.asleep) : lifeStep den prog w others s t = step den prog w s t := by
  obtain ⟨v, g, l, k, a, r, kw, e1, e2, ⟨o, ho, hn⟩, hf⟩ := h
  obtain ⟨cur, code, pos, stack⟩ := t
  simp only at e1 e2
  subst e1 e2
  obtain ⟨z1, z2⟩ := z
  have hd : delegateShows s (.ref a) = false := by
    obtain ⟨n, hn⟩ := Option.isSome_iff_exists.mp hn
    simp only [delegateShows, ho, hn, z1]
    rfl
  have cnt : ∀ t : Thread, stepCounting den prog w s t = step den prog w s t := fun t => by simp [stepCounting, z2]
  have ends : Thread.atItsEnd ⟨.yield v g l k, .builtin "proto.yield_from" ⟨.ref a :: r, kw⟩, pos, stack⟩ = false := rfl
  unfold lifeStep
  split
  · have ct : collectorTurn? w.params others s ⟨.yield v g l k, .builtin "proto.yield_from" ⟨.ref a :: r, kw⟩, pos, stack⟩ = none := rfl
    simp only [ct, ends, Bool.false_eq_true, if_false]
    cases hq : splitAtGen stack with
    | none => simp only [Bool.false_and, Bool.false_eq_true, if_false, cnt]
    | some x =>
      obtain ⟨fs, b, rest⟩ := x
      have h0 := hf fs b rest hq
      simp only [closingShows, h0, hd, Bool.false_or, Bool.and_false, Bool.false_and, Bool.false_eq_true, if_false, cnt]
  · exact cnt _
theorem pick_mild {s : Shared} {t : Thread} (h : Mild s t) (z : s.heap.life.registered = []) : (Config.single s t).pick w = .ok (.run 0, .single s t) := by
  obtain ⟨v, g, l, k, a, r, kw, e1, e2, _⟩ := h
  obtain ⟨cur, code, pos, stack⟩ := t
  simp only at e1 e2
  subst e1 e2
  have c1 : (Config.single s ⟨.yield v g l k, .builtin "proto.yield_from" ⟨.ref a :: r, kw⟩, pos, stack⟩).collect? w.params = none := by
    simp [Config.collect?, Config.single, (nothing_to_collect _ _ _ s _ z).1]
  have c2 : (Config.single s ⟨.yield v g l k, .builtin "proto.yield_from" ⟨.ref a :: r, kw⟩, pos, stack⟩).collectable = [] := by
    simp [Config.collectable, Config.single, (nothing_to_collect w.params _ _ s _ z).2]
  have c3 : (Config.single s ⟨.yield v g l k, .builtin "proto.yield_from" ⟨.ref a :: r, kw⟩, pos, stack⟩).moves w.params.profile = [.run 0] := by
    simp [Config.moves, Config.single, movesFrom, Thread.moves, Thread.atomic, Thread.rests, Thread.tells]
  unfold Config.pick
  simp only [c1, c2, Config.pickThread, c3]
  cases w.params.lifetimes <;> simp
theorem move_mild {s : Shared} {t : Thread} (h : Mild s t) (z : s.asleep) : (Config.single s t).run den prog w 0 = (step den prog w s t).lift := by
  have hl := fun others => life_mild den prog w others h z
  obtain ⟨v, g, l, k, a, r, kw, e1, e2, _⟩ := h
  obtain ⟨cur, code, pos, stack⟩ := t
  simp only at e1 e2
  subst e1 e2
  simp only [Config.run, Config.single]
  simp [hl, others_single, frozenBadly, ThreadState.insideWrite]
  cases step den prog w s ⟨.yield v g l k, .builtin "proto.yield_from" ⟨.ref a :: r, kw⟩, pos, stack⟩ <;> simp [Step.lift, Config.single, Thread.finalizes]
theorem sched_fine {s : Shared} {t : Thread} (h : Fine s t) (z : s.asleep) : sstep den prog w (.single s t) = (step den prog w s t).lift ∨
    step den prog w s t = .halt (.unsupported "lifetime:generator-with-cleanup-left-suspended") s := by
  rcases h with h | h
  · exact sstep_single den prog w s t h z
  · left
    simp only [sstep, pick_mild w h z.1, Config.move, move_mild den prog w h z]
end
/-! ### forgetting what frames keep alive -/
theorem mild_forget {s s' : Shared} {t t' : Thread} (hs : s.forget = s'.forget) (ht : t.forget = t'.forget) (h : Mild s t) : Mild s' t' := by
  obtain ⟨v, g, l, k, a, r, kw, e1, e2, ⟨o, ho, hn⟩, hf⟩ := h
  have e3 : t.cur = t'.cur ∧ t.code = t'.code ∧ forgetAll t.stack = forgetAll t'.stack := by
    simp only [Thread.forget, Thread.mk.injEq] at ht
    exact ⟨ht.1, ht.2.1, ht.2.2.2⟩
  refine ⟨v, g, l, k, a, r, kw, e3.1 ▸ e1, e3.2.1 ▸ e2, ⟨o, (Shared.forget_eq hs).1 ▸ ho, hn⟩, fun fs b rest e => ?_⟩
  have q1 := splitAtGen_forgetAll t'.stack
  have q2 := splitAtGen_forgetAll t.stack
  rw [e] at q1
  rw [e3.2.2, q1] at q2
  cases e4 : splitAtGen t.stack with
  | none => rw [e4] at q2; cases q2
  | some x =>
    obtain ⟨fs', b', rest'⟩ := x
    rw [e4] at q2
    have h0 := hf fs' b' rest' e4
    simp only [Option.map_some, Option.some.injEq, Prod.mk.injEq] at q2
    rw [← any_guarded_forgetAll, q2.1, any_guarded_forgetAll]
    exact h0
theorem fine_forget {s s' : Shared} {t t' : Thread} (hs : s.forget = s'.forget) (ht : t.forget = t'.forget) (h : Fine s t) : Fine s' t' := by
  rcases h with h | h
  · left
    rw [← Thread.calm_forget t', ← ht, Thread.calm_forget]
    exact h
  · exact .inr (mild_forget hs ht h)
section
variable (den : Code → Sem PySem.Fin) (prog : Program) (w : World)
theorem fine_runs {s : Shared} {t : Thread} (h : ∀ k s₁ t₁, runNK den prog w k s t = .running s₁ t₁ → Fine s₁ t₁) : ∀ k s₁ t₁, runN den prog w k s t = .running s₁ t₁ → Fine s₁ t₁ := by
  intro k s₁ t₁ e
  have q := runNK_same den prog w k (s₁ := s) (s₂ := s) (t₁ := t) (t₂ := t) rfl rfl
  rw [e] at q
  cases e2 : runNK den prog w k s t with
  | halted _ _ => rw [e2] at q; cases q
  | running s₂ t₂ =>
    rw [e2] at q
    simp only [Run.forget] at q
    injection q with q1 q2
    exact fine_forget q1 q2 (h k s₂ t₂ e2)
/-- a run of fine steps is the scheduler's run -/
theorem sched_runs : ∀ {n : Nat} {s s' : Shared} {t : Thread} {o : Outcome}, runN den prog w n s t = .halted o s' → o.ends = true → (∀ k s₁ t₁, runN den prog w k s t = .running s₁ t₁ → Fine s₁ t₁) → s.asleep → schedN den prog w n (.single s t) = .halted o s'
  | 0, s, s', t, o, h, _, _, _ => by cases h
  | n + 1, s, s', t, o, h, ho, hf, z => by
    have e := sched_fine den prog w (hf 0 s t rfl) z
    simp only [runN] at h
    cases hs : step den prog w s t with
    | go s₂ t₂ =>
      rw [hs] at h e
      rcases e with e | e
      · simp only [schedN, e, Step.lift]
        exact sched_runs h ho (fun k s₁ t₁ q => hf (k + 1) s₁ t₁ (by simp only [runN, hs]; exact q)) (Shared.asleep_of_life (step_life den prog w s s₂ t t₂ hs) z)
      · cases e
    | halt o₂ s₂ =>
      rw [hs] at h e
      cases h
      rcases e with e | e
      · simp only [schedN, e, Step.lift]
      · injection e with e1 _
        rw [e1] at ho; cases ho
end
/-! ### what the machine comes to -/
inductive Gets (M : Model) (base : List Frame) : Shared → Sem PySem.Fin → Code → Pos → List Frame → Shared → End → Prop
  | here {s t c p pre e} : Exits e t c p pre → Gets M base s t c p pre s e
  | next {s t c p pre s₁ t₁ c₁ p₁ pre₁ s' e} : Fine s ⟨t, c, p, pre ++ base⟩ → stepK M.den M.prog M.w s ⟨t, c, p, pre ++ base⟩ = .go s₁ ⟨t₁, c₁, p₁, pre₁ ++ base⟩ → Gets M base s₁ t₁ c₁ p₁ pre₁ s' e → Gets M base s t c p pre s' e
theorem step_calm {M : Model} {s s' : Shared} {t t' : Thread} (h : M.step s t = .go s' t') : t.calm = true ∧ stepK M.den M.prog M.w s t = .go s' t' := by
  cases hl : t.loud with
  | true => rw [M.step_loud hl] at h; cases h
  | false =>
    rw [M.step_quiet hl] at h
    refine ⟨?_, h⟩
    rw [Thread.calm_eq, hl]
    cases hr : t.refused with
    | false => rfl
    | true =>
      obtain ⟨what, e⟩ := stepK_refused M.den M.prog M.w (s := s) hr
      rw [e] at h; cases h
theorem Gets.quiet {M : Model} {base pre pre₁ : List Frame} {s s₁ s' : Shared} {t t₁ : Sem PySem.Fin} {c c₁ : Code} {p p₁ : Pos} {e : End} (h : M.step s ⟨t, c, p, pre ++ base⟩ = .go s₁ ⟨t₁, c₁, p₁, pre₁ ++ base⟩) (r : Gets M base s₁ t₁ c₁ p₁ pre₁ s' e) : Gets M base s t c p pre s' e :=
  .next (.inl (step_calm h).1) (step_calm h).2 r
theorem Gets.of {M : Model} {base pre : List Frame} {s s' : Shared} {t : Sem PySem.Fin} {c : Code} {p : Pos} {e : End} (h : Reach M base s t c p pre s' e) : Gets M base s t c p pre s' e := by
  induction h with
  | exit hx => exact .here hx
  | step hs _ ih => exact .quiet hs ih
theorem Gets.onto {M : Model} {base B pre : List Frame} {s s₁ s' : Shared} {t : Sem PySem.Fin} {c : Code} {p : Pos} {e e₁ : End} (h : Gets M (B ++ base) s t c p pre s₁ e₁)
    (k : ∀ t' c' p' pre', Exits e₁ t' c' p' pre' → Gets M base s₁ t' c' p' (pre' ++ B) s' e) : Gets M base s t c p (pre ++ B) s' e := by
  induction h with
  | here hx => exact k _ _ _ _ hx
  | next hf hs _ ih => exact .next (by simpa only [List.append_assoc] using hf) (by simpa only [List.append_assoc] using hs) (ih k)
/-- behind it stands the program's run -/
theorem Gets.runs {M : Model} {base pre : List Frame} {s s' : Shared} {t : Sem PySem.Fin} {c : Code} {p : Pos} {e : End} (h : Gets M base s t c p pre s' e) :
    ∃ n t' c' p' pre', runNK M.den M.prog M.w n s ⟨t, c, p, pre ++ base⟩ = .running s' ⟨t', c', p', pre' ++ base⟩ ∧ Exits e t' c' p' pre' ∧ ∀ k s₁ t₁, k < n → runNK M.den M.prog M.w k s ⟨t, c, p, pre ++ base⟩ = .running s₁ t₁ → Fine s₁ t₁ := by
  induction h with
  | here hx => exact ⟨0, _, _, _, _, rfl, hx, fun k _ _ hk => absurd hk (Nat.not_lt_zero k)⟩
  | @next s t c p pre s₁ t₁ c₁ p₁ pre₁ s' e hf hs _ ih =>
    obtain ⟨n, t', c', p', pre', hn, hx, hk⟩ := ih
    refine ⟨n + 1, t', c', p', pre', by simp only [runNK, hs]; exact hn, hx, fun k s₂ t₂ hlt hr => ?_⟩
    cases k with
    | zero =>
      simp only [runNK] at hr
      injection hr with h1 h2
      subst h1 h2
      exact hf
    | succ k =>
      simp only [runNK, hs] at hr
      exact hk k s₂ t₂ (by omega) hr
end RP


/-! EvRB: weakest preconditions over what the machine comes to. -/
namespace RP
open PySem
/-- an end that a generator's consumer may be given -/
def Told (e : End) (s : Shared) : Prop := e.quiet = true ∨ ∃ (v : Value) (g : Bool) (l : List Value) (k : Resume → Sem PySem.Fin) (a : Addr) (r : List Value) (kw : List (Str × Value)) (p : Pos) (fs : List Frame),
  e = .susp v g l k (.builtin "proto.yield_from" ⟨.ref a :: r, kw⟩) p fs ∧ fs.any Frame.guarded = false ∧ ∃ o, s.heap.get? a = some o ∧ o.genNumber?.isSome = true
def GetsC (M : Model) (Γ : Ctx) (p : Pos) (s : Shared) (r : Result) (s' : Shared) : Prop := ∀ base, Γ.Fits base → Gets M base s (M.den Γ.code) Γ.code p [] s' (.ret r)
def WakesP (M : Model) (Γ : Ctx) (p : Pos) (g : Nat) (r : Resume) (s : Shared) (res : GenResult) (s' : Shared) : Prop :=
  (∃ c e s₁, s.gens[g]? = some (.fresh c) ∧ r = .send .none ∧ (∀ base, (Γ.wake c p).Fits base → Gets M base (s.setGen g .running) (M.den c) c p [] s₁ e) ∧ Told e s₁ ∧ res = e.result ∧ s' = s₁.setGen g e.genState) ∨
  (∃ k₀ l₀ c₀ p₀ fs cl e s₁, s.gens[g]? = some (.suspended k₀ l₀ c₀ p₀ fs cl) ∧ (∀ base, (Γ.wake c₀ p).Fits base → Gets M base (s.setGen g .running) (k₀ r) c₀ p₀ fs s₁ e) ∧ Told e s₁ ∧ res = e.result ∧ s' = s₁.setGen g e.genState) ∨
  Wakes M Γ p g r s res s'
/-- plain turns of a generator that does not run -/
def Idle (M : Model) (g : Nat) (r : Resume) (s : Shared) (res : GenResult) (s' : Shared) : Prop := ∀ (l : List Value) (k : GenResult → Sem PySem.Fin) (c : Code) (p : Pos) (st : List Frame), M.step s ⟨.resume g r l k, c, p, st⟩ = .go s' ⟨k res, c, p, st⟩
def wpP {α : Type} (M : Model) (Γ : Ctx) : Sem α → (α → Pos → Shared → Prop) → (Value → Pos → Shared → Prop) → Pos → Shared → Prop
  | .pure x, Q, _, p, s => Q x p s
  | .raise v, _, E, p, s => E v p s
  | .rule _ k, Q, E, p, s => wpP M Γ (k ()) Q E p s
  | .at q k, Q, E, _, s => wpP M Γ (k ()) Q E q s
  | .load a _ k, Q, E, p, s => ∃ o, s.heap.get? a = some o ∧ wpP M Γ (k o) Q E p s
  | .update a _ f k, Q, E, p, s => (s.heap.get? a).isSome ∧ wpP M Γ (k ()) Q E p { s with heap := s.heap.update a f }
  | .loadIfAlive a k, Q, E, p, s => wpP M Γ (k (s.heap.get? a)) Q E p s
  | .point _ k, Q, E, p, s => wpP M Γ (k ()) Q E p s
  | .alloc o k, Q, E, p, s => wpP M Γ (k s.heap.objs.size) Q E p { s with heap := s.heap.push o }
  | .fresh k, Q, E, p, s => wpP M Γ (k s.toks) Q E p { s with toks := s.toks + 1 }
  | .ask k, Q, E, p, s => wpP M Γ (k ⟨M.prog, M.w.params⟩) Q E p s
  | .choose src n k, Q, E, p, s => n ≠ 0 ∧ wpP M Γ (k (M.w.draws src (s.drawn.get src) % n)) Q E p { s with drawn := s.drawn.bump src }
  | .os q _ k, Q, E, p, s => wpP M Γ (k (Os.step s.os q).2) Q E p { s with os := (Os.step s.os q).1 }
  | .call c h _ _ k, Q, E, p, s => ∃ r s', GetsC M (Γ.enter c h p) p s r s' ∧ wpP M Γ (k r) Q E p s'
  | .handled own k, Q, E, p, s => wpP M Γ (k (if own then Γ.own else Γ.handled)) Q E p s
  | .genState g k, Q, E, p, s => ∃ st, s.gens[g]? = some st ∧ wpP M Γ (k st.seen) Q E p s
  | .newGen c k, Q, E, p, s => wpP M Γ (k s.gens.size) Q E p { s with gens := s.gens.push (.fresh c) }
  | .resume g r _ k, Q, E, p, s => ∃ res s', WakesP M Γ p g r s res s' ∧ wpP M Γ (k res) Q E p s'
  | .stack k, Q, E, p, s => wpP M Γ (k ((Γ.code, p) :: Γ.below)) Q E p s
  | .thread k, Q, E, p, s => wpP M Γ (k 0) Q E p s
  | _, _, _, _, _ => False

section
variable {α β : Type} {M : Model} {Γ : Ctx}
theorem getsC_of {p : Pos} {s s' : Shared} {r : Result} (h : Returns M Γ p s r s') : GetsC M Γ p s r s' := fun base hf => .of (runs_reach h base hf)
/-- what holds by the library's logic holds here -/
theorem wpP_of (m : Sem α) : ∀ {Q : α → Pos → Shared → Prop} {E : Value → Pos → Shared → Prop} {p : Pos} {s : Shared}, Sem.wp M Γ m Q E p s → wpP M Γ m Q E p s := by
  induction m with
  | pure x => intro Q E p s h; exact h
  | raise v => intro Q E p s h; exact h
  | unsupported | finish | «yield» | fork | await | register => intro Q E p s h; exact h.elim
  | rule _ k ih | «at» _ k ih | alloc _ k ih | loadIfAlive _ k ih | point _ k ih | fresh k ih | ask k ih | os _ _ k ih | handled _ k ih | newGen _ k ih | stack k ih | thread k ih => intro Q E p s h; exact ih _ h
  | load a _ k ih | genState a k ih => intro Q E p s h; obtain ⟨o, ho, h⟩ := h; exact ⟨o, ho, ih _ h⟩
  | update a _ f k ih | choose _ _ k ih => intro Q E p s h; exact ⟨h.1, ih _ h.2⟩
  | call c h g l k ih => intro Q E p s h; obtain ⟨r, s', hr, h⟩ := h; exact ⟨r, s', getsC_of hr, ih _ h⟩
  | resume g r l k ih => intro Q E p s h; obtain ⟨res, s', hw, h⟩ := h; exact ⟨res, s', .inr (.inr hw), ih _ h⟩
theorem wpP_mono (m : Sem α) : ∀ {Q Q' : α → Pos → Shared → Prop} {E E' : Value → Pos → Shared → Prop} {p : Pos} {s : Shared}, wpP M Γ m Q E p s → (∀ x p s, Q x p s → Q' x p s) → (∀ x p s, E x p s → E' x p s) → wpP M Γ m Q' E' p s := by
  induction m with
  | pure x => intro Q Q' E E' p s h hq he; exact hq _ _ _ h
  | raise v => intro Q Q' E E' p s h hq he; exact he _ _ _ h
  | unsupported | finish | «yield» | fork | await | register => intro Q Q' E E' p s h hq he; exact h.elim
  | rule _ k ih | «at» _ k ih | alloc _ k ih | loadIfAlive _ k ih | point _ k ih | fresh k ih | ask k ih | os _ _ k ih | handled _ k ih | newGen _ k ih | stack k ih | thread k ih => intro Q Q' E E' p s h hq he; exact ih _ h hq he
  | load a _ k ih | genState a k ih => intro Q Q' E E' p s h hq he; obtain ⟨o, ho, h⟩ := h; exact ⟨o, ho, ih _ h hq he⟩
  | update a _ f k ih | choose _ _ k ih => intro Q Q' E E' p s h hq he; exact ⟨h.1, ih _ h.2 hq he⟩
  | call c h g l k ih => intro Q Q' E E' p s h hq he; obtain ⟨r, s', hr, h⟩ := h; exact ⟨r, s', hr, ih _ h hq he⟩
  | resume g r l k ih => intro Q Q' E E' p s h hq he; obtain ⟨res, s', hw, h⟩ := h; exact ⟨res, s', hw, ih _ h hq he⟩
theorem wpP_bind (m : Sem α) (f : α → Sem β) (Q : β → Pos → Shared → Prop) (E : Value → Pos → Shared → Prop) (p : Pos) (s : Shared) :
    wpP M Γ (m.bind f) Q E p s = wpP M Γ m (fun a p' s' => wpP M Γ (f a) Q E p' s') E p s := by
  induction m generalizing p s <;> simp only [Sem.bind, wpP, *]
theorem wpP_catch (m : Sem α) (f : Value → Sem α) (Q : α → Pos → Shared → Prop) (E : Value → Pos → Shared → Prop) (p : Pos) (s : Shared) :
    wpP M Γ (m.tryCatch f) Q E p s = wpP M Γ m Q (fun e p' s' => wpP M Γ (f e) Q E p' s') p s := by
  induction m generalizing p s <;> simp only [Sem.tryCatch, wpP, *]
theorem wpP_onRaise (m : Sem α) (f : Value → Sem Unit) (Q : α → Pos → Shared → Prop) (E : Value → Pos → Shared → Prop) (p : Pos) (s : Shared) :
    wpP M Γ (m.onRaise f) Q E p s = wpP M Γ m Q (fun e p' s' => wpP M Γ (f e) (fun _ p'' s'' => E e p'' s'') E p' s') p s := by
  induction m generalizing p s <;> simp only [Sem.onRaise, wpP, wpP_bind, *]
theorem wpP_keep (vs : List Value) (m : Sem α) (Q : α → Pos → Shared → Prop) (E : Value → Pos → Shared → Prop) (p : Pos) (s : Shared) : wpP M Γ (m.keep vs) Q E p s = wpP M Γ m Q E p s := by
  induction m generalizing p s <;> simp only [Sem.keep, wpP, *]
end
/-- a generator's end at the machine: its consumer goes on -/
theorem exit_gen {M : Model} {e : End} {t : Sem PySem.Fin} {c : Code} {p : Pos} {pre : List Frame} (s : Shared) (g : Nat) (k : GenResult → Sem PySem.Fin) (l : List Value) (c₁ : Code) (p₁ : Pos) (st : List Frame) (hx : Exits e t c p pre) (ht : Told e s) :
    Fine s ⟨t, c, p, pre ++ .gen g k l c₁ p₁ :: st⟩ ∧ stepK M.den M.prog M.w s ⟨t, c, p, pre ++ .gen g k l c₁ p₁ :: st⟩ = .go (s.setGen g e.genState) ⟨k e.result, c₁, p₁, st⟩ := by
  rcases ht with hq | ⟨v, g₀, l₀, k₀, a, r, kw, p₀, fs, rfl, hg, ho⟩
  · have := step_calm (step_exit_gen (M := M) s g k l c₁ p₁ st hx hq)
    exact ⟨.inl this.1, this.2⟩
  · obtain ⟨rfl, rfl, rfl, rfl, hfs⟩ := hx
    have hsp : splitAtGen (pre ++ .gen g k l c₁ p₁ :: st) = some (pre, (g, k, c₁, p₁), st) := by
      rw [splitAtGen_append_none _ hfs, splitAtGen_gen]; simp
    refine ⟨.inr ⟨v, g₀, l₀, k₀, a, r, kw, rfl, rfl, ho, fun fs b rest e => ?_⟩, ?_⟩
    · rw [hsp] at e
      simp only [Option.some.injEq, Prod.mk.injEq] at e
      rw [← e.1]; exact hg
    · simp only [PySem.stepK, PySem.step, hsp]
      rfl
theorem wakes_of {M : Model} {Γ : Ctx} {p : Pos} {g : Nat} {r : Resume} {s s' : Shared} {res : GenResult} (h : Wakes M Γ p g r s res s') :
    (∃ c e s₁, s.gens[g]? = some (.fresh c) ∧ r = .send .none ∧ (∀ base, (Γ.wake c p).Fits base → Gets M base (s.setGen g .running) (M.den c) c p [] s₁ e) ∧ Told e s₁ ∧ res = e.result ∧ s' = s₁.setGen g e.genState) ∨
    (∃ k₀ l₀ c₀ p₀ fs cl e s₁, s.gens[g]? = some (.suspended k₀ l₀ c₀ p₀ fs cl) ∧ (∀ base, (Γ.wake c₀ p).Fits base → Gets M base (s.setGen g .running) (k₀ r) c₀ p₀ fs s₁ e) ∧ Told e s₁ ∧ res = e.result ∧ s' = s₁.setGen g e.genState) ∨ Idle M g r s res s' := by
  unfold Wakes at h
  cases hg : s.gens[g]? with
  | none => simp only [hg] at h
  | some x =>
    simp only [hg] at h
    cases x with
    | fresh c =>
      cases r with
      | throw x =>
        obtain ⟨rfl, rfl⟩ := h
        exact .inr (.inr fun l k c' p' st => step_resume_throwFresh _ _ _ _ _ _ _ _ hg)
      | send v =>
        by_cases hv : v = .none
        · subst hv
          obtain ⟨e, s₁, hr, hq, rfl, rfl⟩ := h
          exact .inl ⟨c, e, s₁, rfl, rfl, fun base hf => .of (runs_reach hr base hf), .inl hq, rfl, rfl⟩
        · have q : res = .justStarted ∧ s' = s := by cases v <;> first | exact absurd rfl hv | exact h
          obtain ⟨rfl, rfl⟩ := q
          exact .inr (.inr fun l k c' p' st => step_resume_justStarted _ _ _ _ _ _ _ hg hv)
    | suspended k₀ l₀ c₀ p₀ fs cl =>
      obtain ⟨e, s₁, hr, hq, rfl, rfl⟩ := h
      exact .inr (.inl ⟨k₀, l₀, c₀, p₀, fs, cl, e, s₁, rfl, fun base hf => .of (runs_reach hr base hf), .inl hq, rfl, rfl⟩)
    | running =>
      obtain ⟨rfl, rfl⟩ := h
      exact .inr (.inr fun l k c' p' st => step_resume_running _ _ _ _ _ _ _ _ hg)
    | finished =>
      obtain ⟨rfl, rfl⟩ := h
      exact .inr (.inr fun l k c' p' st => step_resume_finished _ _ _ _ _ _ _ _ hg)
theorem wakesP_of {M : Model} {Γ : Ctx} {p : Pos} {g : Nat} {r : Resume} {s s' : Shared} {res : GenResult} (h : WakesP M Γ p g r s res s') :
    (∃ c e s₁, s.gens[g]? = some (.fresh c) ∧ r = .send .none ∧ (∀ base, (Γ.wake c p).Fits base → Gets M base (s.setGen g .running) (M.den c) c p [] s₁ e) ∧ Told e s₁ ∧ res = e.result ∧ s' = s₁.setGen g e.genState) ∨
    (∃ k₀ l₀ c₀ p₀ fs cl e s₁, s.gens[g]? = some (.suspended k₀ l₀ c₀ p₀ fs cl) ∧ (∀ base, (Γ.wake c₀ p).Fits base → Gets M base (s.setGen g .running) (k₀ r) c₀ p₀ fs s₁ e) ∧ Told e s₁ ∧ res = e.result ∧ s' = s₁.setGen g e.genState) ∨ Idle M g r s res s' := by
  rcases h with h | h | h
  · exact .inl h
  · exact .inr (.inl h)
  · exact wakes_of h
/-- a tree and what follows it, over the frames fs -/
theorem gets_wrap {α : Type} {M : Model} {Γ : Ctx} {fs : List Frame} {Φ : End → Shared → Prop} (K : α → Sem PySem.Fin) (J : Value → Sem PySem.Fin) (gd : Bool → Bool) (lv : List Value → List Value) (m : Sem α) :
    ∀ {Q : α → Pos → Shared → Prop} {E : Value → Pos → Shared → Prop} {p : Pos} {s : Shared}, wpP M (Γ.over fs) m Q E p s →
      (∀ x p' s', Q x p' s' → ∃ e s₂, (∀ base, Γ.Fits base → Gets M base s' (K x) Γ.code p' fs s₂ e) ∧ Φ e s₂) →
      (∀ x p' s', E x p' s' → ∃ e s₂, (∀ base, Γ.Fits base → Gets M base s' (J x) Γ.code p' fs s₂ e) ∧ Φ e s₂) →
      ∃ e s₂, (∀ base, Γ.Fits base → Gets M base s (m.wrap K J gd lv) Γ.code p fs s₂ e) ∧ Φ e s₂ := by
  have one : ∀ {s s₁ : Shared} {t t₁ : Sem PySem.Fin} {p p₁ : Pos}, (∀ st, M.step s ⟨t, Γ.code, p, st⟩ = .go s₁ ⟨t₁, Γ.code, p₁, st⟩) → (∃ e s₂, (∀ base, Γ.Fits base → Gets M base s₁ t₁ Γ.code p₁ fs s₂ e) ∧ Φ e s₂) → ∃ e s₂, (∀ base, Γ.Fits base → Gets M base s t Γ.code p fs s₂ e) ∧ Φ e s₂ :=
    fun hs ⟨e, s₂, r, q⟩ => ⟨e, s₂, fun base hf => .quiet (pre₁ := fs) (hs _) (r base hf), q⟩
  induction m with
  | pure x => intro Q E p s h hq he; exact hq x p s h
  | raise v => intro Q E p s h hq he; exact he v p s h
  | unsupported | finish | «yield» | fork | await | register => intro Q E p s h hq he; exact h.elim
  | rule _ k ih => intro Q E p s h hq he; exact one (fun st => step_rule ..) (ih _ h hq he)
  | «at» _ k ih => intro Q E p s h hq he; exact one (fun st => step_at ..) (ih _ h hq he)
  | load a _ k ih => intro Q E p s h hq he; obtain ⟨o, ho, h⟩ := h; exact one (fun st => step_load _ _ _ _ _ _ _ ho) (ih _ h hq he)
  | update a _ f k ih => intro Q E p s h hq he; exact one (fun st => step_update _ _ _ _ _ _ _ _ h.1) (ih _ h.2 hq he)
  | loadIfAlive a k ih => intro Q E p s h hq he; exact one (fun st => step_loadIfAlive ..) (ih _ h hq he)
  | point _ k ih => intro Q E p s h hq he; exact one (fun st => step_point ..) (ih _ h hq he)
  | alloc o k ih => intro Q E p s h hq he; exact one (fun st => step_alloc ..) (ih _ h hq he)
  | fresh k ih => intro Q E p s h hq he; exact one (fun st => step_fresh ..) (ih _ h hq he)
  | ask k ih => intro Q E p s h hq he; exact one (fun st => step_ask ..) (ih _ h hq he)
  | choose src n k ih => intro Q E p s h hq he; exact one (fun st => step_choose _ _ _ _ _ _ _ h.1) (ih _ h.2 hq he)
  | os q _ k ih => intro Q E p s h hq he; exact one (fun st => step_os ..) (ih _ h hq he)
  | genState g k ih => intro Q E p s h hq he; obtain ⟨st, hg, h⟩ := h; exact one (fun st => step_genState _ _ _ _ _ _ hg) (ih _ h hq he)
  | newGen c k ih => intro Q E p s h hq he; exact one (fun st => step_newGen ..) (ih _ h hq he)
  | thread k ih => intro Q E p s h hq he; exact one (fun st => step_thread ..) (ih _ h hq he)
  | handled own k ih =>
    intro Q E p s h hq he
    obtain ⟨e, s₂, r, q⟩ := ih _ h hq he
    refine ⟨e, s₂, fun base hf => .quiet (pre₁ := fs) ?_ (r base hf), q⟩
    have hf' := hf.over fs
    show M.step _ ⟨.handled own _, _, _, _⟩ = _
    rw [step_handled]
    cases own
    · simp only [Bool.false_eq_true, if_false]; rw [← hf'.handled]
    · simp only [if_true]; rw [← hf'.own]
  | stack k ih =>
    intro Q E p s h hq he
    obtain ⟨e, s₂, r, q⟩ := ih _ h hq he
    refine ⟨e, s₂, fun base hf => .quiet (pre₁ := fs) ?_ (r base hf), q⟩
    have hf' := hf.over fs
    show M.step _ ⟨.stack _, _, _, _⟩ = _
    rw [step_stack, ← hf'.below]
    rfl
  | call c hd g l k ih =>
    intro Q E p s h hq he
    obtain ⟨r, s₁, hc, h⟩ := h
    obtain ⟨e, s₂, rr, q⟩ := ih r h hq he
    refine ⟨e, s₂, fun base hf => ?_, q⟩
    have hf' := hf.over fs
    refine .quiet (pre₁ := .ret (fun r => (k r).wrap K J gd lv) hd (gd g) (lv l) Γ.code p [] :: fs) (step_call ..) ?_
    have hh : Gets M (.ret (fun r => (k r).wrap K J gd lv) hd (gd g) (lv l) Γ.code p [] :: (fs ++ base)) s (M.den c) c p [] s₁ (.ret r) := hc (.ret (fun r => (k r).wrap K J gd lv) hd (gd g) (lv l) Γ.code p [] :: (fs ++ base)) (hf'.enter c _ hd _ _ p [])
    refine Gets.onto (B := .ret (fun r => (k r).wrap K J gd lv) hd (gd g) (lv l) Γ.code p [] :: fs) (pre := []) (by simpa only [List.cons_append] using hh) fun t' c' p' pre' hx => ?_
    obtain ⟨rfl, rfl⟩ := hx
    exact .quiet (pre₁ := fs) (step_leaf_ret ..) (rr base hf)
  | resume g r l k ih =>
    intro Q E p s h hq he
    obtain ⟨res, s₁, hw, h⟩ := h
    obtain ⟨e, s₂, rr, q⟩ := ih res h hq he
    refine ⟨e, s₂, fun base hf => ?_, q⟩
    have hf' := hf.over fs
    rcases wakesP_of hw with ⟨c, e₁, s₃, hg, rfl, hr, ht, rfl, rfl⟩ | ⟨k₀, l₀, c₀, p₀, fs₀, cl, e₁, s₃, hg, hr, ht, rfl, rfl⟩ | hw
    · refine .quiet (pre₁ := .gen g (fun x => (k x).wrap K J gd lv) (lv l) Γ.code p :: fs) (step_resume_fresh _ _ _ _ _ _ _ hg) ?_
      have hh := hr (.gen g (fun x => (k x).wrap K J gd lv) (lv l) Γ.code p :: (fs ++ base)) (hf'.wake c g _ _ p)
      refine Gets.onto (B := .gen g (fun x => (k x).wrap K J gd lv) (lv l) Γ.code p :: fs) (pre := []) (by simpa only [List.cons_append] using hh) fun t' c' p' pre' hx => ?_
      obtain ⟨x1, x2⟩ := exit_gen (M := M) s₃ g (fun x => (k x).wrap K J gd lv) (lv l) Γ.code p (fs ++ base) hx ht
      exact .next (pre₁ := fs) (by simpa only [List.append_assoc, List.cons_append] using x1) (by simpa only [List.append_assoc, List.cons_append] using x2) (rr base hf)
    · show Gets M base s (.resume g r (lv l) fun x => (k x).wrap K J gd lv) Γ.code p fs s₂ e
      refine .quiet (pre₁ := fs₀ ++ .gen g (fun x => (k x).wrap K J gd lv) (lv l) Γ.code p :: fs) (by simpa only [List.append_assoc, List.cons_append] using step_resume_suspended _ _ _ _ _ _ _ _ hg) ?_
      have hh := hr (.gen g (fun x => (k x).wrap K J gd lv) (lv l) Γ.code p :: (fs ++ base)) (hf'.wake c₀ g _ _ p)
      refine Gets.onto (B := .gen g (fun x => (k x).wrap K J gd lv) (lv l) Γ.code p :: fs) (pre := fs₀) (by simpa only [List.cons_append] using hh) fun t' c' p' pre' hx => ?_
      obtain ⟨x1, x2⟩ := exit_gen (M := M) s₃ g (fun x => (k x).wrap K J gd lv) (lv l) Γ.code p (fs ++ base) hx ht
      exact .next (pre₁ := fs) (by simpa only [List.append_assoc, List.cons_append] using x1) (by simpa only [List.append_assoc, List.cons_append] using x2) (rr base hf)
    · exact .quiet (pre₁ := fs) (hw _ _ _ _ _) (rr base hf)
end RP


/-! EvRC: the same in arounds; ends. -/
namespace RP
open PySem
def wpAnyP {α : Type} (M : Model) (A : Around) (t : Sem α) (Q : α → Shared → Prop) (E : Value → Shared → Prop) (s : Shared) : Prop :=
  ∀ Γ p, Γ.In A → wpP M Γ t (fun x _ s' => Q x s') (fun e _ s' => E e s') p s
def codeAnyP (M : Model) (A : Around) (c : Code) (R : Result → Shared → Prop) (s : Shared) : Prop :=
  ∀ Γ p, Γ.code = c → Γ.Below A → ∃ r s', GetsC M Γ p s r s' ∧ R r s'
section
variable {α β : Type} {M : Model} {A : Around} {E : Value → Shared → Prop} {s : Shared}
theorem any_of {t : Sem α} {Q : α → Shared → Prop} (h : wpAny M A t Q E s) : wpAnyP M A t Q E s := fun Γ p hΓ => wpP_of _ (h Γ p hΓ)
theorem code_of {c : Code} {R : Result → Shared → Prop} (h : codeAny M A c R s) : codeAnyP M A c R s := fun Γ p hc hΓ => let ⟨r, s', hr, q⟩ := h Γ p hc hΓ; ⟨r, s', getsC_of hr, q⟩
theorem pureP {x : α} {Q : α → Shared → Prop} (h : Q x s) : wpAnyP M A (pure x) Q E s := fun _ _ _ => h
theorem throwP {e : Value} {Q : α → Shared → Prop} (h : E e s) : wpAnyP M A (throw e : Sem α) Q E s := fun _ _ _ => h
theorem monoP {t : Sem α} {Q Q' : α → Shared → Prop} {E' : Value → Shared → Prop} (h : wpAnyP M A t Q E s) (hq : ∀ x s, Q x s → Q' x s) (he : ∀ x s, E x s → E' x s) : wpAnyP M A t Q' E' s :=
  fun Γ p hΓ => wpP_mono _ (h Γ p hΓ) (fun x _ s => hq x s) (fun x _ s => he x s)
theorem bindP {m : Sem α} {f : α → Sem β} {Q : β → Shared → Prop} (h : wpAnyP M A m (fun x s' => wpAnyP M A (f x) Q E s') E s) : wpAnyP M A (m >>= f) Q E s := fun Γ p hΓ => by
  show wpP M Γ (m.bind f) _ _ p s
  rw [wpP_bind]
  exact wpP_mono _ (h Γ p hΓ) (fun x p' s' q => q Γ p' hΓ) (fun _ _ _ q => q)
theorem catchP {m : Sem α} {f : Value → Sem α} {Q : α → Shared → Prop} (h : wpAnyP M A m Q (fun e s' => wpAnyP M A (f e) Q E s') s) : wpAnyP M A (m.tryCatch f) Q E s := fun Γ p hΓ => by
  rw [wpP_catch]
  exact wpP_mono _ (h Γ p hΓ) (fun _ _ _ q => q) (fun x p' s' q => q Γ p' hΓ)
theorem onRaiseP {m : Sem α} {f : Value → Sem Unit} {Q : α → Shared → Prop} (h : wpAnyP M A m Q (fun e s' => wpAnyP M A (f e) (fun _ s'' => E e s'') E s') s) : wpAnyP M A (m.onRaise f) Q E s := fun Γ p hΓ => by
  rw [wpP_onRaise]
  exact wpP_mono _ (h Γ p hΓ) (fun _ _ _ q => q) (fun x p' s' q => q Γ p' hΓ)
theorem attemptP {m : Sem α} {Q : Except Value α → Shared → Prop} (h : wpAnyP M A m (fun x => Q (.ok x)) (fun e => Q (.error e)) s) : wpAnyP M A m.attempt Q E s := by
  unfold Sem.attempt
  refine catchP (bindP (monoP h (fun x s' q => pureP q) fun e s' q => pureP q))
theorem holdingP {vs : List Value} {m : Sem α} {Q : α → Shared → Prop} (h : wpAnyP M A m Q E s) : wpAnyP M A (holding vs m) Q E s := fun Γ p hΓ => by
  rw [holding_eq_keep, wpP_keep]
  exact h Γ p hΓ
theorem standP {q : Pos} {Q : Unit → Shared → Prop} (h : Q () s) : wpAnyP M A (standAt q) Q E s := any_of (wpAny_standAt h)
theorem code_mono {c : Code} {R R' : Result → Shared → Prop} (h : codeAnyP M A c R s) (k : ∀ r s, R r s → R' r s) : codeAnyP M A c R' s := fun Γ p hc hΓ => let ⟨r, s', hr, q⟩ := h Γ p hc hΓ; ⟨r, s', hr, k r s' q⟩
/-- a code's tree -/
theorem wrap_same (t : Sem PySem.Fin) : t.wrap Sem.pure .raise id id = t := by
  rw [← Sem.bind_eq_wrap]
  show t >>= pure = t
  exact bind_pure t
theorem gets_tree {Γ : Ctx} {R : Result → Shared → Prop} {t : Sem PySem.Fin} {p : Pos} (h : wpP M Γ t (fun fin p' s' => match fin with
    | .done f => R (.ok f) s'
    | .again c => c.quiet = true ∧ ∃ r s'', GetsC M (Γ.goto c) p' s' r s'' ∧ R r s'') (fun e _ s' => R (.error e) s') p s) :
    ∃ r s', (∀ base, Γ.Fits base → Gets M base s t Γ.code p [] s' (.ret r)) ∧ R r s' := by
  have e0 : Γ.over [] = Γ := rfl
  have := gets_wrap (fs := []) (Γ := Γ) (M := M) (Φ := fun e s' => ∃ r, e = .ret r ∧ R r s') Sem.pure .raise id id t (by rw [e0]; exact h) (fun fin p' s' q => by
      cases fin with
      | done f => exact ⟨.ret (.ok f), s', fun base _ => .here ⟨rfl, rfl⟩, _, rfl, q⟩
      | again c =>
        obtain ⟨hq, r, s'', hr, q⟩ := q
        exact ⟨.ret r, s'', fun base hf => .quiet (pre₁ := []) (step_again _ _ _ _ _ _ hq) (hr base (hf.goto c)), _, rfl, q⟩)
    (fun e p' s' q => ⟨.ret (.error e), s', fun base _ => .here ⟨rfl, rfl⟩, _, rfl, q⟩)
  obtain ⟨e, s₂, hr, r, rfl, q⟩ := this
  rw [wrap_same] at hr
  exact ⟨r, s₂, hr, q⟩
theorem code_tree {c : Code} {R : Result → Shared → Prop} (h : wpAnyP M (A.under c) (M.den c) (fun fin s' => match fin with
    | .done f => R (.ok f) s'
    | .again c' => c'.quiet = true ∧ codeAnyP M A c' R s') (fun e s' => R (.error e) s') s) : codeAnyP M A c R s := fun Γ p hc hΓ => by
  subst hc
  refine gets_tree (wpP_mono _ (h Γ p hΓ.in) (fun fin p' s' q => ?_) fun _ _ _ q => q)
  cases fin with
  | done f => exact q
  | again c' => exact ⟨q.1, q.2 (Γ.goto c') p' rfl (hΓ.goto c')⟩
/-- a call within a tree -/
theorem runValueP {c : Code} {Q : Value → Shared → Prop} (h : codeAnyP M A c (fun r s' => match r with | .ok (.ret v) => Q v s' | .ok _ => False | .error e => E e s') s) : wpAnyP M A (runValue c) Q E s := fun Γ p hΓ => by
  obtain ⟨r, s', hr, q⟩ := h _ p rfl (hΓ.enter c none p (by intro x; cases x))
  refine ⟨r, s', hr, ?_⟩
  cases r with
  | error e => exact q
  | ok f => cases f with
    | ret v => exact q
    | next => exact q.elim
    | brk => exact q.elim
    | cont => exact q.elim
theorem callP {f : Value} {pos : List Value} {kw : List (Str × Value)} {Q : Value → Shared → Prop} (h : codeAnyP M A (.call f ⟨pos, kw⟩) (fun r s' => match r with | .ok (.ret v) => Q v s' | .ok _ => False | .error e => E e s') s) : wpAnyP M A (call f pos kw) Q E s := runValueP h
end
theorem runs_end {den : Code → Sem PySem.Fin} {prog : Program} {w : World} : ∀ {n : Nat} {s s₁ s₂ : Shared} {t t₁ : Thread} {o : Outcome}, runNK den prog w n s t = .running s₁ t₁ → stepK den prog w s₁ t₁ = .halt o s₂ → (∀ k s' t', k < n → runNK den prog w k s t = .running s' t' → Fine s' t') → Fine s₁ t₁ →
    runNK den prog w (n + 1) s t = .halted o s₂ ∧ ∀ k s' t', runNK den prog w k s t = .running s' t' → Fine s' t'
  | 0, s, s₁, s₂, t, t₁, o, h, hs, _, hf => by
    simp only [runNK] at h
    injection h with h1 h2
    subst h1 h2
    refine ⟨by simp only [runNK, hs], fun k s' t' e => ?_⟩
    cases k with
    | zero =>
      simp only [runNK] at e
      injection e with e1 e2
      subst e1 e2
      exact hf
    | succ k => simp only [runNK, hs] at e; cases e
  | n + 1, s, s₁, s₂, t, t₁, o, h, hs, hk, hf => by
    have h0 := h
    simp only [runNK] at h
    cases e : stepK den prog w s t with
    | halt o' s' => rw [e] at h; cases h
    | go s' t' =>
      rw [e] at h
      obtain ⟨a, b⟩ := runs_end h hs (fun k s₃ t₃ hlt q => hk (k + 1) s₃ t₃ (by omega) (by simp only [runNK, e]; exact q)) hf
      refine ⟨by rw [runNK, e]; exact a, fun k s₃ t₃ q => ?_⟩
      cases k with
      | zero => exact hk 0 s₃ t₃ (Nat.succ_pos n) q
      | succ k => rw [runNK, e] at q; exact b k s₃ t₃ q
/-- the law's thread ends -/
theorem ends_P {prog : Program} {w : World} {t : Sem PySem.Fin} {s : Shared} {R : Result → Shared → Prop} (hz : s.asleep)
    (h : wpAnyP (model prog w) callerA t (fun fin s' => ∃ f, fin = .done f ∧ (R (.ok f) s' ∧ leftWithCleanup s'.gens = false)) (fun e s' => R (.error e) s' ∧ leftWithCleanup s'.gens = false) s) :
    ∃ n r s' s'', runN (denote table) prog w n s ⟨t, .builtin "claim.caller" {}, default, []⟩ = .halted (outcomeOf r) s' ∧
      schedN (denote table) prog w n (.single s ⟨t, .builtin "claim.caller" {}, default, []⟩) = .halted (outcomeOf r) s' ∧ s'.forget = s''.forget ∧ R r s'' := by
  obtain ⟨r, s₁, hr, hR, hl⟩ := gets_tree (M := model prog w) (R := fun r s' => R r s' ∧ leftWithCleanup s'.gens = false) (wpP_mono _ (h _ default caller_in) (fun fin p' s' q => by
    obtain ⟨f, rfl, q⟩ := q
    exact q) fun _ _ _ q => q)
  obtain ⟨n, t', c', p', pre', hn, ⟨rfl, rfl⟩, hf⟩ := (hr [] ⟨rfl, rfl, rfl, rfl⟩).runs
  have hst : stepK (denote table) prog w s₁ ⟨leafOf r, c', p', []⟩ = .halt (outcomeOf r) s₁ := by
    cases r with
    | ok f => simp [leafOf, PySem.stepK, PySem.step, finish, outcomeOf, hl]
    | error e => simp [leafOf, PySem.stepK, PySem.step, finish, outcomeOf, hl]
  have hcalm : Fine s₁ ⟨leafOf r, c', p', []⟩ := by
    left
    cases r <;> rfl
  obtain ⟨hk, hall⟩ := runs_end hn hst hf hcalm
  obtain ⟨s'', hN, hfo⟩ := runNK_halted (denote table) prog w hk
  exact ⟨n + 1, r, s'', s₁, hN, sched_runs _ _ _ hN (outcomeOf_ends r) (fine_runs _ _ _ hall) hz, hfo, hR⟩
end RP


/-! EvRD: the law's row, from a walk over Runs+. -/
namespace RP
open PySem PySem.W PySem.Calls PyProof.Rows
theorem from_spec {c : ClaimW} {tree : List Value → Sem PySem.Fin} {w : World} {s : Shared} {free : Addr → Prop} {gens : Prop} {kept : Heap → Prop} (hz : s.asleep) (hgens : s.gens = #[])
    (spec : ∀ args, c.pre args = true → WData.layableAll args = true → ∀ ord : List DictEntry → List DictEntry, (∀ l, (ord l).Perm l) → ∃ vs s₁, layAllW c.records (classAt s.heap) w.params ord args s = some (vs, s₁) ∧
      wpAnyP (model c.prog w) callerA (tree vs) (fun fin s' => ∃ f, fin = .done f ∧ (c.Ends s args vs s₁ (.ok f) s' ∧ s'.os = s.os ∧ AllBare s'.gens ∧ kept s'.heap)) (fun e s' => c.Ends s args vs s₁ (.error e) s' ∧ s'.os = s.os ∧ AllBare s'.gens ∧ kept s'.heap) s₁) :
    c.CallFrom (fun vs => ⟨tree vs, .builtin "claim.caller" {}, default, []⟩) w free gens kept s := by
  intro args hp hl ord ho
  obtain ⟨vs, s₁, laid, code⟩ := spec args hp hl ord ho
  have al := layAllW_rest _ _ _ laid
  obtain ⟨k, r, s', s'', run, sched, fo, ca, os, kp⟩ := ends_P (prog := c.prog) (w := w) (t := tree vs) (s := s₁) (R := fun r s' => c.Ends s args vs s₁ r s' ∧ s'.os = s.os ∧ kept s'.heap) (Shared.asleep_of_life al.2.2.2 hz)
    (monoP code (fun fin s' ⟨f, e, q1, q2, q3, q4⟩ => ⟨f, e, ⟨q1, q2, q4⟩, leftWithCleanup_false_of_bare q3⟩) fun e s' ⟨q1, q2, q3, q4⟩ => ⟨⟨q1, q2, q4⟩, leftWithCleanup_false_of_bare q3⟩)
  obtain ⟨eh, _, _, eo, _⟩ := Shared.forget_eq fo
  have ca' := ca.congr eh
  have kp' : kept s'.heap := by rw [eh]; exact kp
  have os' : s'.os = s.os := eo.trans os
  have life : s'.heap.life = s.heap.life := (runN_life _ _ _ run).trans al.2.2.2
  refine ⟨vs, s₁, laid, k, _, s', sched, ?_, (fun _ i x hx => by rw [hgens] at hx; simp at hx), kp', by rw [life], Shared.rest_eq os'⟩
  rcases ca' with ⟨v, rfl, x1, x2, x3, x4, x5⟩ | ⟨e, ob, cls, rfl, x1, x2, x3, x4, x5⟩
  · exact .inl ⟨v, rfl, x1, x2, x3, fun b o y _ => x4 b o y, x5⟩
  · exact .inr ⟨e, ob, cls, rfl, x1, x2, x3, x4, fun b o y _ => x5 b o y⟩
/-- what is wanted of the law's call -/
abbrev WalkP (q : Program) (loose : List Str) (XP : (Str → Option Value) → Heap → Prop) (YP : World → Heap → Prop) (r : RowW) (d : DefRec) (kwd : List (Str × Expr)) : Prop :=
  ∀ (w : World) (s₀ s₁ : Shared) (mg mb : Str → Option Value), Ground q loose r.records XP w s₀ mg mb s₁.heap → YP w s₁.heap → ∀ (a : Addr) (o : Obj) (pm cd doc dV kV : Value), s₁.heap.get? a = some o → o.data = .func { docDef d.name d.params d.body d.scope pm cd doc with defaults := dV, kwdefaults := kV } →
    s₁.heap.CodeRec cd d.name → Dflts mg s₁.heap d.params kwd dV kV → mg d.name = some (.ref a) → s₁.gens = #[] → ∀ (args : List WData) (vals : List Value) (as : List Addr), r.claim.pre args = true → WData.layableAll args = true → ReadsAllW r.records (classAt s₀.heap) s₁.heap vals args as →
      WellAll w.params s₁.heap vals args → (∀ a ∈ as, (a == sysModules) = false) → wpAnyP (model r.prog w) callerA (PySem.call (.ref a) vals) (fun v s' => GoodWG r.claim (classAt s₀.heap) (ExcName.means s₀.heap) args s₁ (.ok (.ret v)) s') (fun e s' => GoodWG r.claim (classAt s₀.heap) (ExcName.means s₀.heap) args s₁ (.error e) s') s₁
end RP
namespace RPX
open PySem PySem.W PySem.Calls PyProof.Rows RP
/-- stands in the place of the library's head for a walk over Runs+ -/
theorem PySem.W.holds_open {r : OpenRow} {q : Program} {loose : List Str} {Xt : Shared → Bool} {XP : (Str → Option Value) → Heap → Prop} {α : Type} {Yf : Shared → α} {Ya : World → α} {YP : World → Heap → Prop} {d : DefRec} {kwd : List (Str × Expr)} {N : Nat} (left : LeftO r.prog q loose Xt Yf Ya N) (hY : ∀ w s, Yf s = Ya w → YP w s.heap)
    (hYk : ∀ w h h', YP w h → (∀ b o, h.get? b = some o → h'.get? b = some o) → YP w h') (hX : ∀ s, Xt s = true → XP (s.heap.nsMap mainGlobals) s.heap) (hXk : ∀ mg h h', XP mg h → (∀ b o, h.get? b = some o → h'.get? b = some o) → XP mg h') (hdef : defOf q r.name = some (d, kwd))
    (hp : r.prog.theDef r.name = some (d.params, d.body, d.scope)) (hk : kwWritten? d.params.kwonlyargs d.params.kw_defaults = some kwd) (hRf : ∀ s, Xt s = true → RecFacts r.records s.heap) (hwr : (!r.writes || r.records.isEmpty) = true) (k1 : r.wellSaid = true)
    (ok : (chainsOk q && opensWell r.prog && (frees r.toRowW && r.within.isEmpty)) = true) (hb : r.prog.bare) (hw : r.toRowW.promised) (call : WalkP q loose XP YP r.toRowW d kwd) : r.Holds := by
  have okk := ok
  simp only [Bool.and_eq_true] at okk
  obtain ⟨⟨chains, opens⟩, fr, _⟩ := okk
  have ⟨oka, okb⟩ := Bool.and_eq_true_iff.mp ok
  obtain ⟨frs, wi0⟩ := Bool.and_eq_true_iff.mp okb
  obtain ⟨same, un, idn, app, mks⟩ := frees_parts frs
  refine ⟨k1, hw, ⟨hb, opens, by show r.toRowW.makers.map _ = []; rw [mks]; rfl⟩, hw.witness, fun w => ⟨(left.behind hX chains w).1, fun s' hs' => ?_⟩⟩
  obtain ⟨s₀, hf, g0, s, top, hz, gens, ns, gr, y⟩ := (left.behind (XP := fun mg h => XP mg h ∧ RecFacts r.records h) (fun s hs => ⟨hX s hs, hRf s hs⟩) chains w).2 s' hs'
  have G0 : Ground q loose [] XP w s (s.heap.nsMap mainGlobals) (s.heap.nsMap builtinsNs) s.heap := ⟨gr.T, gr.B, gr.D, gr.TE, gr.TD, gr.W, gr.X.1, gr.cls, gr.has, gr.apart, gr.once, gr.K⟩
  have recs := gr.X.2
  have gens0 : s.gens = #[] := Array.eq_empty_of_size_eq_zero (beq_iff_eq.mp gens)
  have G : Ground q loose r.records XP w s _ _ s.heap := recs.ground G0
  refine ⟨s₀, hf, g0, s, top, fun n hn => ?_, recs.1, recs.2.1, ?_⟩
  · obtain rfl : n = r.name := by split at hn <;> simp_all
    exact pinned_of_view ns G0 hdef hp hk
  refine from_spec (c := r.claim) hz gens0 fun args hpre hlay ord hord => ?_
  obtain ⟨⟨vs, s₁⟩, laid⟩ := Option.isSome_iff_exists.mp (layAllW_isSome (P := w.params) (ord := ord) G.has args r.args s (pre_splitW hpre).1)
  have kp := layAllW_keeps _ _ _ laid
  have al := layAllW_rest _ _ _ laid
  obtain ⟨as, rd, inn, old⟩ := reads_layAllW hord _ _ _ laid hlay s₁.heap (fun _ _ e => e)
  have L : Laid r.records w s s₁ args vs as := ⟨⟨ord, hord, laid⟩, rd, inn, old, kp, al.1.trans gens0, al.2.2.1⟩
  have G₁ := G.keeps hXk kp
  obtain ⟨a, o, pm, cd, doc, dV, kV, h1, h2, h3, h4, h5⟩ := G₁.fn hdef
  have hm := defOf_name hdef ▸ h1
  have run := call w s s₁ _ _ G₁ (hYk _ _ _ (hY w s y) kp) a o pm cd doc dV kV h2 h3 h4 h5 (defOf_name hdef ▸ h1) L.gens args vs as hpre hlay L.reads L.well (L.low G.low)
  have id0 := ident_freeW un idn app
  have wi1 : r.claim.within = [] := List.isEmpty_iff.mp wi0
  refine ⟨vs, s₁, laid, bindP (any_of (wpAny_nsGet G₁.T.g ?_))⟩
  rw [h1]
  refine bindP (monoP run (fun v s' g => pureP ⟨_, rfl, ?_⟩) fun e s' g => ?_)
  · have z := g.laid (c := r.claim) same wi1 id0 L
    exact ⟨z.1, z.2.1, z.2.2, fun q => ⟨namesKept_of top ns _ kp g.2.1.old, noTable hwr q⟩⟩
  · have z := g.laid (c := r.claim) same wi1 id0 L
    exact ⟨z.1, z.2.1, z.2.2, fun q => ⟨namesKept_of top ns _ kp g.2.1.old, noTable hwr q⟩⟩
end RPX


/-! EvRE: readings over Runs+: expressions, argument lists, calls, statements. -/
namespace RP
open PySem PySem.Spec PyProof.Rows L2
structure PEP (X : Cx) (e : Expr) (t : TE) : Prop where
  run : ∀ (pins : List (Addr × Obj)) (s : Shared) (σ : L2.St) (H : Hp) (Q : VK), Inv X pins σ H s → t σ H Q → wpAnyP (model X.prog X.w) X.A (eval e X.env) (EP X pins σ Q) X.xe s
structure PTP (X : Cx) (e : Expr) (t : TT) : Prop where
  run : ∀ (pins : List (Addr × Obj)) (s : Shared) (σ : L2.St) (H : Hp) (Q : Bool → Hp → Prop), Inv X pins σ H s → t σ H Q → wpAnyP (model X.prog X.w) X.A (isTrue e X.env (eval e X.env)) (TP X pins σ Q) X.xe s
structure PAP (X : Cx) (es : List Expr) (t : TA) : Prop where
  run : ∀ (pos : Pos) (pins : List (Addr × Obj)) (s : Shared) (σ : L2.St) (H : Hp) (Q : List V → Hp → Prop), Inv X pins σ H s → t σ H Q → wpAnyP (model X.prog X.w) X.A (spliced (backTo pos (starEach es X.env))) (AP X pins σ Q) X.xe s
structure PSP (X : Cx) (st : Stmt) (t : TS) : Prop where
  run : ∀ (pins : List (Addr × Obj)) (s : Shared) (σ : L2.St) (H : Hp) (D : Ends), Inv X pins σ H s → t D σ H → wpAnyP (model X.prog X.w) X.A (exec st X.env) (SP X pins D) X.xe s
structure PSsP (X : Cx) (st : List Stmt) (t : TS) : Prop where
  run : ∀ (pins : List (Addr × Obj)) (s : Shared) (σ : L2.St) (H : Hp) (D : Ends), Inv X pins σ H s → t D σ H → wpAnyP (model X.prog X.w) X.A (execs st X.env) (SP X pins D) X.xe s
section
variable {X : Cx} {e a b : Expr} {es : List Expr} {st : Stmt} {sts body : List Stmt} {te ta tb : TE} {tc : TT} {t u : TS} {tr : TA} {pos p : Pos} {x : Str}
theorem pep_of (h : PE X e te) : PEP X e te := ⟨fun pins s σ H Q I q => any_of (h.run pins s σ H Q I q)⟩
theorem ptp_of (h : PT X e tc) : PTP X e tc := ⟨fun pins s σ H Q I q => any_of (h.run pins s σ H Q I q)⟩
theorem pap_of (h : PA X es tr) : PAP X es tr := ⟨fun pos pins s σ H Q I q => any_of (h.run pos pins s σ H Q I q)⟩
theorem psp_of (h : PS X st t) : PSP X st t := ⟨fun pins s σ H D I q => any_of (h.run pins s σ H D I q)⟩
theorem pssp_of (h : PSs X sts t) : PSsP X sts t := ⟨fun pins s σ H D I q => any_of (h.run pins s σ H D I q)⟩
theorem thnP {α : Type} {m : Sem α} {Q Q' : α → Shared → Prop} {M : Model} {A : Around} {E : Value → Shared → Prop} {s : Shared} (h : wpAnyP M A m Q E s) (k : ∀ x s, Q x s → Q' x s) : wpAnyP M A m Q' E s := monoP h k fun _ _ z => z

/-! ### argument lists -/
theorem pap_cons (ha : PEP X e te) (hr : PAP X es tr) (hs : starEach (e :: es) X.env = (false, eval e X.env) :: starEach es X.env := by rfl) : PAP X (e :: es) (tCons te tr) := by
  refine ⟨fun pos pins s σ H Q I h => ?_⟩
  rw [hs]
  show wpAnyP _ _ (spliced ((false, eval e X.env) :: backTo pos (starEach es X.env))) _ _ s
  rw [spliced]
  refine bindP (thnP (ha.run pins s σ H _ I h) fun v s1 ⟨y, H1, I1, r1, q1⟩ => ?_)
  simp only [Bool.false_eq_true, if_false]
  refine bindP (pureP (bindP (holdingP (thnP (hr.run pos pins s1 σ H1 _ I1 q1) fun us s2 ⟨ys, H2, I2, r2, q2⟩ => pureP ?_))))
  exact ⟨y :: ys, H2, I2, .cons r1 r2, q2⟩

/-! ### calls -/
theorem evalArgsP {M : Model} {A : Around} {E : Value → Shared → Prop} {s : Shared} {f : Value} {y : Sem Value} {rest : List (Bool × Sem Value)} {Q : Args → Shared → Prop} (h : wpAnyP M A (spliced ((false, y) :: rest)) (fun vs s' => Q ⟨vs, []⟩ s') E s) : wpAnyP M A (evalArgs f true ((false, y) :: rest) []) Q E s := by
  unfold evalArgs
  show wpAnyP M A (spliced ((false, y) :: rest) >>= _) Q E s
  refine bindP (thnP h fun vs s' q => holdingP ?_)
  exact bindP (pureP (bindP (pureP (pureP q))))
theorem tailP {M : Model} {A : Around} {E : Value → Shared → Prop} {s : Shared} {Q : Value → Shared → Prop} {m : Sem Value} (h : wpAnyP M A m Q E s) : wpAnyP M A (m >>= fun r => holding [r] point >>= fun _ => pure r) Q E s :=
  bindP (thnP h fun r s' q => bindP (holdingP (any_of (wpAny_point (pureP q)))))
theorem markedP {M : Model} {A : Around} {E : Value → Shared → Prop} {s : Shared} {Q : Value → Shared → Prop} {mk f : Value} {ps : List Value} {kw : List (Str × Value)} (h : wpAnyP M A (call f ps kw) Q E s) : wpAnyP M A (callMarked mk f ps kw) Q E s := fun Γ p hΓ => by
  unfold callMarked
  rw [wpP_keep]
  exact h Γ p hΓ
/-- f's keeper is a frame or the machine -/
theorem withP {M : Model} {A : Around} {E : Value → Shared → Prop} {s : Shared} {Q : Value → Shared → Prop} {P : Heap → Prop} {f : Value} {first : List Value} {args : List (Bool × Sem Value)} (hplain : args.any (·.1) = false)
    (hk : ∀ h, P h → ∃ k, (k = Keeper.frame ∨ k = Keeper.machine ∨ k = Keeper.boundFrame) ∧ PySem.W.Looks M h (keeperOf f) k)
    (h : wpAnyP M A (evalArgs f true args []) (fun a s₁ => P s₁.heap ∧ wpAnyP M A (call f (first ++ a.pos) a.kw) Q E s₁) E s) : wpAnyP M A (callWith pos f first args []) Q E s := by
  unfold callWith
  refine bindP (holdingP (thnP h fun a s₁ ⟨h1, h2⟩ => bindP (standP ?_)))
  obtain ⟨k, hk', L⟩ := hk _ h1
  simp only [hplain, List.any_nil, Bool.or_false]
  refine bindP (any_of (L.here ?_))
  rcases hk' with rfl | rfl | rfl
  · dsimp only
    split
    · exact tailP h2
    · exact tailP (markedP h2)
  · exact tailP h2
  · dsimp only
    split
    · exact tailP h2
    · exact tailP (markedP h2)
theorem arm_call {env : Env} {args : List Expr} : eval (.Call (.Name x p) args [] pos) env = (do let f ← eval (.Name x p) env; callWith pos f [] (backTo pos (starEach args env)) (backToKw pos (keywordEach [] env))) := by
  rw [arm_eval_Call_Name']
/-- f(e, ..): f a def, a class, or a built-in of the module -/
theorem pep_callG {f : Addr} {k : V → Value → Prop} (hg : Gl X x) (hm : X.mg x = some (.ref f)) (hk : PySem.W.keepIn X.K (.ref f) = true) (ha : PAP X (e :: es) tr) {tz : TE} (hc : ∀ (pins : List (Addr × Obj)) (s : Shared) (σ : L2.St) (H : Hp) (Q : VK), Inv X pins σ H s → tz σ H Q →
      tr σ H fun vs H1 => ∀ s1 us, Inv X pins σ H1 s1 → Vals vs us → wpAnyP (model X.prog X.w) X.A (call (.ref f) us) (EP X pins σ Q) X.xe s1)
    (hdb : (x == ("__debug__" : Str)) = false := by decide) (he : starEach (e :: es) X.env = (false, eval e X.env) :: starEach es X.env := by rfl) (hpl : (backTo pos (starEach es X.env)).any (·.1) = false := by rfl) : PEP X (.Call (.Name x p) (e :: es) [] pos) tz := by
  refine ⟨fun pins s σ H Q I h => ?_⟩
  rw [arm_call]
  refine bindP (any_of (ld_glob I hg hm ?_ hdb))
  have run := ha.run pos pins s σ H _ I (hc pins s σ H Q I h)
  rw [he] at run ⊢
  refine withP (P := fun h => X.K.In h) (by show (false || (backTo pos (starEach es X.env)).any (·.1)) = false; rw [hpl]; rfl) (PySem.W.keeps_K hk) (evalArgsP (thnP run fun us s1 ⟨vs, H1, I1, r, q⟩ => ⟨I1.kIn, ?_⟩))
  exact q s1 us I1 r
/-! ### statements -/
theorem pssp_nil : PSsP X [] tNext := pssp_of pss_nil
theorem pssp_cons (h1 : PSP X st t) (h2 : PSsP X sts u) : PSsP X (st :: sts) (tSeq t u) := by
  refine ⟨fun pins s σ H D I h => ?_⟩
  rw [execs_cons]
  refine bindP (thnP (h1.run pins s σ H { D with nx := u D } I h) fun f s1 q => ?_)
  cases f with
  | next =>
    obtain ⟨σ', H', I', q⟩ := q
    exact h2.run pins s1 σ' H' D I' q
  | ret v => exact pureP q
  | brk => exact pureP q
  | cont => exact pureP q
theorem pssp_one (h1 : PSP X st t) : PSsP X [st] t := by
  refine ⟨fun pins s σ H D I h => ?_⟩
  rw [execs_cons]
  refine bindP (thnP (h1.run pins s σ H D I h) fun f s1 q => ?_)
  cases f with
  | next => exact pureP q
  | ret v => exact pureP q
  | brk => exact pureP q
  | cont => exact pureP q
theorem psp_if {c : Expr} (hc : PTP X c tc) (ha : PSsP X sts t) (hb : PSsP X body u) : PSP X (.If c sts body pos) (tIfS tc t u) := by
  refine ⟨fun pins s σ H D I h => ?_⟩
  rw [arm_exec_If]
  refine bindP (standP (bindP (thnP (hc.run pins s σ H _ I h) fun d s1 ⟨H1, I1, q1⟩ => ?_)))
  cases d with
  | true => exact ha.run pins s1 σ H1 D I1 q1
  | false => exact hb.run pins s1 σ H1 D I1 q1
end
end RP


/-! EvRF: a generator's turns over Runs+. -/
namespace RP
open PySem PySem.Spec PyProof.Rows L2 GenW

/-- R n: the end, where n items more may come; Y n: an item, n more may come; L: what happens while it sleeps -/
structure Turns where
  R : Nat → Result → Shared → Prop
  Y : Nat → Value → Shared → Prop
  L : Value → Shared → Shared → Prop
def FlowP (M : Model) (A : Around) (T : Turns) : Nat → Code → Sem PySem.Fin → List Frame → Shared → Prop
  | 0 => fun c t fs s => ∀ (Γ : PySem.Ctx) (p : Pos), Γ.code = c → Γ.Woken A → ∃ e s', (∀ base, Γ.Fits base → Gets M base s t c p fs s' e) ∧ ∃ r, e = .ret r ∧ T.R 0 r s'
  | n + 1 => fun c t fs s => ∀ (Γ : PySem.Ctx) (p : Pos), Γ.code = c → Γ.Woken A → ∃ e s', (∀ base, Γ.Fits base → Gets M base s t c p fs s' e) ∧ ((∃ r, e = .ret r ∧ T.R (n + 1) r s') ∨
      ∃ v g l k c' p' fs', e = .susp v g l k c' p' fs' ∧ Told e s' ∧ T.Y n v s' ∧ ∀ s'', T.L v s' s'' → FlowP M A T n c' (k (.send .none)) fs' s'')
/-- what an end gives -/
def After (M : Model) (A : Around) (T : Turns) (n : Nat) (e : End) (s' : Shared) : Prop :=
  (∃ r, e = .ret r ∧ T.R n r s') ∨ ∃ m v g l k c' p' fs', n = m + 1 ∧ e = .susp v g l k c' p' fs' ∧ Told e s' ∧ T.Y m v s' ∧ ∀ s'', T.L v s' s'' → FlowP M A T m c' (k (.send .none)) fs' s''
section
variable {M : Model} {A : Around} {T : Turns} {n : Nat} {c : Code} {fs : List Frame} {s : Shared} {t : Sem PySem.Fin}
theorem flow_iff : FlowP M A T n c t fs s ↔ ∀ (Γ : PySem.Ctx) (p : Pos), Γ.code = c → Γ.Woken A → ∃ e s', (∀ base, Γ.Fits base → Gets M base s t c p fs s' e) ∧ After M A T n e s' := by
  cases n with
  | zero =>
    refine ⟨fun h Γ p e1 e2 => ?_, fun h Γ p e1 e2 => ?_⟩
    · obtain ⟨e, s', g, q⟩ := h Γ p e1 e2
      exact ⟨e, s', g, .inl q⟩
    · obtain ⟨e, s', g, q | ⟨m, v, g', l, k, c', p', fs', hm, q⟩⟩ := h Γ p e1 e2
      · exact ⟨e, s', g, q⟩
      · cases hm
  | succ n =>
    refine ⟨fun h Γ p e1 e2 => ?_, fun h Γ p e1 e2 => ?_⟩
    · obtain ⟨e, s', g, q | ⟨v, g', l, k, c', p', fs', q⟩⟩ := h Γ p e1 e2
      · exact ⟨e, s', g, .inl q⟩
      · exact ⟨e, s', g, .inr ⟨n, v, g', l, k, c', p', fs', rfl, q⟩⟩
    · obtain ⟨e, s', g, q | ⟨m, v, g', l, k, c', p', fs', hm, q⟩⟩ := h Γ p e1 e2
      · exact ⟨e, s', g, .inl q⟩
      · cases hm
        exact ⟨e, s', g, .inr ⟨v, g', l, k, c', p', fs', q⟩⟩
theorem flow_wrap {α : Type} {m : Sem α} {K : α → Sem PySem.Fin} {J : Value → Sem PySem.Fin} {gd : Bool → Bool} {lv : List Value → List Value} (h : wpAnyP M (A.over c fs) m (fun a s' => FlowP M A T n c (K a) fs s') (fun x s' => FlowP M A T n c (J x) fs s') s) :
    FlowP M A T n c (m.wrap K J gd lv) fs s := by
  rw [flow_iff]
  rintro Γ p rfl hΓ
  exact gets_wrap K J gd lv m (h (Γ.over fs) p (hΓ.over fs)) (fun a p' s' h' => flow_iff.mp h' Γ p' rfl hΓ) (fun x p' s' h' => flow_iff.mp h' Γ p' rfl hΓ)
theorem flow_bind {α : Type} {m : Sem α} {K : α → Sem PySem.Fin} (h : wpAnyP M (A.over c fs) m (fun a s' => FlowP M A T n c (K a) fs s') (fun x s' => FlowP M A T n c (.raise x) fs s') s) : FlowP M A T n c (m >>= K) fs s := by
  rw [Sem.bind_eq_wrap']; exact flow_wrap h
theorem flow_bindw {α β : Type} {m : Sem α} {f : α → Sem β} {K : β → Sem PySem.Fin} {J : Value → Sem PySem.Fin} {gd : Bool → Bool} {lv : List Value → List Value}
    (h : wpAnyP M (A.over c fs) m (fun a s' => FlowP M A T n c ((f a).wrap K J gd lv) fs s') (fun x s' => FlowP M A T n c (J x) fs s') s) : FlowP M A T n c ((m >>= f).wrap K J gd lv) fs s := by
  rw [Sem.bind_eq_wrap', Sem.wrap_wrap]; exact flow_wrap h
theorem flow_at {p' : Pos} {k : Unit → Sem PySem.Fin} (h : FlowP M A T n c (k ()) fs s) : FlowP M A T n c (.at p' k) fs s :=
  flow_wrap (m := standAt p') (K := k) (J := .raise) (gd := id) (lv := id) (standP h)
theorem flow_point {l : List Value} {k : Unit → Sem PySem.Fin} (h : FlowP M A T n c (k ()) fs s) : FlowP M A T n c (.point l k) fs s :=
  flow_wrap (m := point) (K := k) (J := .raise) (gd := id) (lv := fun _ => l) (any_of (wpAny_point h))
theorem flow_call {c' : Code} {h : Option Value} {g : Bool} {l : List Value} {k : Result → Sem PySem.Fin} (hc : ∀ p, FlowP M A T n c' (M.den c') (.ret k h g l c p [] :: fs) s) : FlowP M A T n c (.call c' h g l k) fs s := by
  rw [flow_iff]
  rintro Γ p rfl hΓ
  obtain ⟨e, s', hr, he⟩ := flow_iff.mp (hc p) (Γ.goto c') p rfl (hΓ.goto c')
  exact ⟨e, s', fun base hf => .quiet (pre₁ := .ret k h g l Γ.code p [] :: fs) (step_call ..) (hr base (hf.goto c')), he⟩
theorem flow_leaf {k : Result → Sem PySem.Fin} {h : Option Value} {g : Bool} {l kp : List Value} {c₁ : Code} {p₁ : Pos} (r : Result) (hk : FlowP M A T n c₁ (k r) fs s) : FlowP M A T n c (leafOf r) (.ret k h g l c₁ p₁ kp :: fs) s := by
  rw [flow_iff]
  rintro Γ p rfl hΓ
  obtain ⟨e, s', hr, he⟩ := flow_iff.mp hk (Γ.goto c₁) p₁ rfl (hΓ.goto c₁)
  exact ⟨e, s', fun base hf => .quiet (pre := .ret k h g l c₁ p₁ kp :: fs) (pre₁ := fs) (step_leaf_ret ..) (hr base (hf.goto c₁)), he⟩
theorem flow_again {c' : Code} (hq : c'.quiet = true) (hc : FlowP M A T n c' (M.den c') fs s) : FlowP M A T n c (.pure (.again c')) fs s := by
  rw [flow_iff]
  rintro Γ p rfl hΓ
  obtain ⟨e, s', hr, he⟩ := flow_iff.mp hc (Γ.goto c') p rfl (hΓ.goto c')
  exact ⟨e, s', fun base hf => .quiet (pre₁ := fs) (step_again _ _ _ _ _ _ hq) (hr base (hf.goto c')), he⟩
theorem flow_end (r : Result) (h : T.R n r s) : FlowP M A T n c (leafOf r) [] s := by
  rw [flow_iff]
  rintro Γ p rfl _
  exact ⟨.ret r, s, fun base _ => .here ⟨rfl, rfl⟩, .inl ⟨r, rfl, h⟩⟩
theorem flow_susp {v : Value} {g : Bool} {l : List Value} {k : Resume → Sem PySem.Fin} (hfs : splitAtGen fs = none) (hT : ∀ p, Told (.susp v g l k c p fs) s) (hY : T.Y n v s) (h : ∀ s'', T.L v s s'' → FlowP M A T n c (k (.send .none)) fs s'') :
    FlowP M A T (n + 1) c (.yield v g l k) fs s := by
  rw [flow_iff]
  rintro Γ p rfl _
  exact ⟨.susp v g l k Γ.code p fs, s, fun base _ => .here ⟨rfl, rfl, rfl, rfl, hfs⟩, .inr ⟨n, v, g, l, k, _, p, fs, rfl, rfl, hT p, hY, h⟩⟩
theorem flow_yield {v : Value} {g : Bool} {l : List Value} {k : Resume → Sem PySem.Fin} (hfs : splitAtGen fs = none) (hg : g = false) (hfg : fs.any Frame.guarded = false) (hY : T.Y n v s) (h : ∀ s'', T.L v s s'' → FlowP M A T n c (k (.send .none)) fs s'') :
    FlowP M A T (n + 1) c (.yield v g l k) fs s := flow_susp hfs (fun p => .inl (by simp [End.quiet, hg, hfg])) hY h
end
/-- it may be woken -/
def GoesP (M : Model) (A : Around) (T : Turns) (n : Nat) (gs : GenState) (s : Shared) : Prop :=
  match gs with
  | .fresh c => FlowP M A T n c (M.den c) [] s
  | .suspended k _ c _ fs _ => FlowP M A T n c (k (.send .none)) fs s
  | _ => False
theorem resumeP {M : Model} {A : Around} {T : Turns} {n g : Nat} {gs : GenState} {s : Shared} {l : List Value} {α : Type} {k : GenResult → Sem α} {Q : α → Shared → Prop} {E : Value → Shared → Prop} (hg : s.gens[g]? = some gs) (hgo : GoesP M A T n gs (s.setGen g .running))
    (hR : ∀ r s₁, T.R n r s₁ → wpAnyP M A (k (End.ret r).result) Q E (s₁.setGen g .finished))
    (hY : ∀ m v s₁ gs', n = m + 1 → T.Y m v s₁ → (∀ s'', T.L v s₁ s'' → GoesP M A T m gs' s'') → wpAnyP M A (k (.yielded v)) Q E (s₁.setGen g gs')) :
    wpAnyP M A (.resume g (.send .none) l k) Q E s := by
  intro Γ p hΓ
  show ∃ res s', WakesP M Γ p g (.send .none) s res s' ∧ _
  have fin : ∀ e₁ s₁, After M A T n e₁ s₁ → Told e₁ s₁ ∧ wpP M Γ (k e₁.result) (fun a _ s' => Q a s') (fun e _ s' => E e s') p (s₁.setGen g e₁.genState) := by
    intro e₁ s₁ he
    rcases he with ⟨r, rfl, h⟩ | ⟨m, v, g₀, l₀, k₀, c₀, p₀, fs₀, hn, rfl, ht, hy, h⟩
    · exact ⟨.inl rfl, hR r s₁ h Γ p hΓ⟩
    · exact ⟨ht, hY m v s₁ (End.susp v g₀ l₀ k₀ c₀ p₀ fs₀).genState hn hy (fun s'' hl => h s'' hl) Γ p hΓ⟩
  cases gs with
  | fresh c =>
    obtain ⟨e₁, s₁, hr, he⟩ := flow_iff.mp hgo (Γ.wake c p) p rfl (hΓ.wake c p)
    obtain ⟨ht, hw⟩ := fin e₁ s₁ he
    exact ⟨_, _, .inl ⟨c, e₁, s₁, hg, rfl, hr, ht, rfl, rfl⟩, hw⟩
  | suspended k₀ l₀ c₀ p₀ fs₀ cl =>
    obtain ⟨e₁, s₁, hr, he⟩ := flow_iff.mp hgo (Γ.wake c₀ p) p₀ rfl (hΓ.wake c₀ p)
    obtain ⟨ht, hw⟩ := fin e₁ s₁ he
    exact ⟨_, _, .inr (.inl ⟨k₀, l₀, c₀, p₀, fs₀, cl, e₁, s₁, hg, hr, ht, rfl, rfl⟩), hw⟩
  | running => exact hgo.elim
  | finished => exact hgo.elim
end RP


/-! EvRG: the statements of a generator's body, over Runs+. -/
namespace RP
open PySem PySem.Spec PyProof.Rows L2 GenW

/-- a generator's object, nobody sleeps over it -/
def GenO (g : Nat) (o : Obj) : Prop := ∃ nm qn, o.cls = .type "generator" ∧ o.data = .fields #[.int g 0, nm, qn] ∧ (o.slots = #[] ∨ ∃ t, o.slots = #[some (.int 0 t)])
theorem GenO.noCell {g : Nat} {o : Obj} (h : GenO g o) (v : Option Value) : o.data ≠ .cell v := by
  obtain ⟨nm, qn, _, e, _⟩ := h
  rw [e]; intro q; cases q
theorem GenO.number {g : Nat} {o : Obj} (h : GenO g o) : o.genNumber?.isSome = true := by
  obtain ⟨nm, qn, e1, e2, _⟩ := h
  unfold Obj.genNumber?
  rw [e1, e2]
  rfl
/-- where a generator runs: S: the list that gathers what is handed out; g: its number; as: its own object, then those of the generators that wait over it -/
structure Seat where
  S : Addr
  g : Nat
  as : List (Addr × Nat)
def Seat.sp (p : Seat) : List Addr := p.S :: p.as.map (·.1)
/-- while it sleeps: v has been gathered -/
structure SleptP (p : Seat) (v : Value) (s s' : Shared) : Prop where
  os : s'.os = s.os
  size : s.gens.size ≤ s'.gens.size
  bare : ∀ (j : Nat) (x : GenState), s'.gens[j]? = some x → s.gens[j]? = some x ∨ x.bare = true
  up : ∀ j : Nat, p.g < j → s'.gens[j]? = s.gens[j]?
  keep : ∀ b o, b ∉ p.sp → s.heap.get? b = some o → s'.heap.get? b = some o
  own : ∀ acc c, s.heap.get? p.S = some (lstObj acc c) → ∃ c', s'.heap.get? p.S = some (lstObj (acc.push v) c')
  gen : ∀ q ∈ p.as, ∀ o, s.heap.get? q.1 = some o → GenO q.2 o → ∃ o', s'.heap.get? q.1 = some o' ∧ GenO q.2 o'
theorem SleptP.allBare {p : Seat} {v : Value} {s s' : Shared} (h : SleptP p v s s') (b : AllBare s.gens) : AllBare s'.gens := fun y hy => by
  obtain ⟨j, hj, e⟩ := Array.mem_iff_getElem.mp hy
  have q : s'.gens[j]? = some y := by rw [Array.getElem?_eq_getElem hj, e]
  rcases h.bare j y q with z | z
  · exact b y (Array.mem_of_getElem? z)
  · exact z
inductive GPins : List (Addr × Nat) → List (Addr × Obj) → Prop
  | nil : GPins [] []
  | cons {a g o as pl} (h : GenO g o) (r : GPins as pl) : GPins ((a, g) :: as) ((a, o) :: pl)
theorem GPins.mem {as : List (Addr × Nat)} {pl : List (Addr × Obj)} (h : GPins as pl) : ∀ q ∈ as, ∃ o, (q.1, o) ∈ pl ∧ GenO q.2 o := by
  induction h with
  | nil => intro q hq; cases hq
  | cons h r ih =>
    intro q hq
    rcases List.mem_cons.mp hq with rfl | hq
    · exact ⟨_, List.mem_cons_self, h⟩
    · obtain ⟨o, h1, h2⟩ := ih q hq
      exact ⟨o, List.mem_cons_of_mem _ h1, h2⟩
theorem GPins.back {as : List (Addr × Nat)} {pl : List (Addr × Obj)} (h : GPins as pl) : ∀ q ∈ pl, ∃ g, (q.1, g) ∈ as ∧ GenO g q.2 := by
  induction h with
  | nil => intro q hq; cases hq
  | cons h r ih =>
    intro q hq
    rcases List.mem_cons.mp hq with rfl | hq
    · exact ⟨_, List.mem_cons_self, h⟩
    · obtain ⟨o, h1, h2⟩ := ih q hq
      exact ⟨o, List.mem_cons_of_mem _ h1, h2⟩
theorem GPins.make {P : Addr × Obj → Prop} : ∀ {as : List (Addr × Nat)}, (∀ q ∈ as, ∃ o, GenO q.2 o ∧ P (q.1, o)) → ∃ pl, GPins as pl ∧ ∀ p ∈ pl, P p
  | [], _ => ⟨[], .nil, fun p hp => nomatch hp⟩
  | (a, g) :: as, h => by
    obtain ⟨o, h1, h2⟩ := h (a, g) List.mem_cons_self
    obtain ⟨pl, h3, h4⟩ := GPins.make fun q hq => h q (List.mem_cons_of_mem _ hq)
    refine ⟨(a, o) :: pl, .cons h1 h3, fun p hp => ?_⟩
    rcases List.mem_cons.mp hp with rfl | hp
    · exact h2
    · exact h4 p hp
/-- running: ys is gathered; ip: its own iterators, as they stand -/
def GIP (X : Cx) (p : Seat) (ip : List (Addr × Obj)) (ys : List V) (σ : L2.St) (H : Hp) (s : Shared) : Prop :=
  ∃ (acc : Array Value) (c : Nat) (pl : List (Addr × Obj)), Vals ys acc.toList ∧ GPins p.as pl ∧ Inv X ((p.S, lstObj acc c) :: (pl ++ ip)) σ H s
/-- what holds of the seat through the run -/
structure Sits (X : Cx) (p : Seat) : Prop where
  pn : X.pn = []
  ex : ∀ b ∈ p.sp, b ∈ X.ex ∨ X.s_0.heap.objs.size ≤ b
  loc : X.env.locals ∉ p.sp
  cel : ∀ x c, X.env.cells.lookup x = some c → c ∉ p.sp
  no : ∀ e s, X.xe e s → False
section
variable {X : Cx} {p : Seat} {ip : List (Addr × Obj)} {ys : List V} {σ : L2.St} {H : Hp} {s s' : Shared}
theorem GIP.sp (h : GIP X p ip ys σ H s) : ∀ b ∈ p.sp, H b = none ∧ b ∉ X.fs := by
  obtain ⟨acc, c, pl, r, gp, I⟩ := h
  intro b hb
  rcases List.mem_cons.mp hb with rfl | hb
  · obtain ⟨_, h2, _, h4, _⟩ := I.pin (p.S, lstObj acc c) (List.mem_append_right _ List.mem_cons_self)
    exact ⟨h2, h4⟩
  · obtain ⟨q, hq, rfl⟩ := List.mem_map.mp hb
    obtain ⟨o, h1, h2⟩ := gp.mem q hq
    obtain ⟨_, h2, _, h4, _⟩ := I.pin (q.1, o) (List.mem_append_right _ (List.mem_cons_of_mem _ (List.mem_append_left _ h1)))
    exact ⟨h2, h4⟩
/-- the seat's objects have changed, all else is as it was -/
theorem GIP.anew {H' : Hp} {ys' : List V} {acc' : Array Value} {c' : Nat} (st : Sits X p) (hip : ∀ q ∈ ip, q.1 ∉ p.sp) (h : GIP X p ip ys σ H s) (os : s'.os = s.os) (un : Un (frs X.stack) p.sp H H' s.heap s'.heap) (hok : HOk X.prog X.w H' s'.heap) (hb : AllBare s'.gens)
    (hsp : ∀ b ∈ p.sp, H' b = none) (hS : s'.heap.get? p.S = some (lstObj acc' c')) (r' : Vals ys' acc'.toList) (hg : ∀ q ∈ p.as, ∃ o, s'.heap.get? q.1 = some o ∧ GenO q.2 o) : GIP X p ip ys' σ H' s' := by
  have hspf := h.sp
  obtain ⟨acc, c, pl, r, gp, I⟩ := h
  have I0 : Inv X ip σ H s := I.pins_of fun q hq => I.pin q (List.mem_append_right _ (List.mem_cons_of_mem _ (List.mem_append_right _ hq)))
  have J : Inv X ip σ H' s' := I0.call' (ch := p.sp) os un hok hb fun b hb => ⟨st.ex b hb, fun e => st.loc (e ▸ hb), fun x c hc e => st.cel x c hc (e ▸ hb), fun q hq e => by
    rw [st.pn] at hq
    exact hip q hq (e ▸ hb)⟩
  have loc : ∀ b ∈ p.sp, b ≠ X.env.locals := fun b hb e => st.loc (e ▸ hb)
  obtain ⟨pl', gp', hp'⟩ := GPins.make (as := p.as) (P := fun q => s'.heap.get? q.1 = some q.2 ∧ H' q.1 = none ∧ q.1 ≠ X.env.locals ∧ q.1 ∉ X.fs ∧ ∀ v, q.2.data ≠ .cell v) fun q hq => by
    obtain ⟨o, h1, h2⟩ := hg q hq
    have hm : q.1 ∈ p.sp := List.mem_cons_of_mem _ (List.mem_map_of_mem (f := (·.1)) hq)
    exact ⟨o, h2, h1, hsp _ hm, loc _ hm, (hspf _ hm).2, h2.noCell⟩
  refine ⟨acc', c', pl', r', gp', J.pins_of fun q hq => ?_⟩
  rcases List.mem_cons.mp hq with rfl | hq
  · exact ⟨hS, hsp _ List.mem_cons_self, loc _ List.mem_cons_self, (hspf _ List.mem_cons_self).2, fun v z => by cases z⟩
  · rcases List.mem_append.mp hq with hq | hq
    · exact hp' q hq
    · exact J.pin q (List.mem_append_right _ hq)
theorem GIP.facts (h : GIP X p ip ys σ H s) : (∃ (acc : Array Value) (c : Nat), s.heap.get? p.S = some (lstObj acc c) ∧ Vals ys acc.toList) ∧ (∀ q ∈ p.as, ∃ o, s.heap.get? q.1 = some o ∧ GenO q.2 o) ∧ Inv X ip σ H s := by
  obtain ⟨acc, c, pl, r, gp, I⟩ := h
  refine ⟨⟨acc, c, (I.pin (p.S, lstObj acc c) (List.mem_append_right _ List.mem_cons_self)).1, r⟩, fun q hq => ?_, I.pins_of fun q hq => I.pin q (List.mem_append_right _ (List.mem_cons_of_mem _ (List.mem_append_right _ hq)))⟩
  obtain ⟨o, h1, h2⟩ := gp.mem q hq
  exact ⟨o, (I.pin (q.1, o) (List.mem_append_right _ (List.mem_cons_of_mem _ (List.mem_append_left _ h1)))).1, h2⟩
/-- woken again -/
theorem GIP.woken {x : V} {v : Value} (st : Sits X p) (hip : ∀ q ∈ ip, q.1 ∉ p.sp) (h : GIP X p ip ys σ H s) (rv : RelV x v) (z : SleptP p v s s') : GIP X p ip (ys ++ [x]) σ H s' := by
  have hspf := h.sp
  obtain ⟨⟨acc, c, eS, r⟩, hg, I⟩ := h.facts
  obtain ⟨c', eS'⟩ := z.own acc c eS
  have nt : ∀ b u, H b = some u → b ∉ p.sp := fun b u q hb => by rw [(hspf b hb).1] at q; cases q
  refine h.anew st hip z.os ⟨fun b o q _ _ hx => z.keep b o hx q, fun b o q _ _ hx => ⟨o.slots, z.keep b o hx q⟩, fun b o _ n _ => n, fun b o q hx => ⟨o, z.keep b o hx q⟩, fun _ _ q => q, fun _ _ _ q => q, fun b ps q => ⟨#[], by rw [q]; simp⟩⟩
    (fun b u q => (I.hok b u q).stay (fun d w hd e => z.keep d w (by
      rcases hd with y | y
      · rw [y]; exact nt b u q
      · exact nt d _ y) e) (fun _ y => y) fun _ _ y => y) (z.allBare I.bare) (fun b hb => (hspf b hb).1) eS' (by rw [Array.toList_push]; exact r.append (.cons rv .nil)) fun q hq => ?_
  obtain ⟨o, h1, h2⟩ := hg q hq
  exact z.gen q hq o h1 h2
end

/-! ### the turns of a generator's body -/
/-- an item is handed out here; n more may come -/
structure Gives (p : Seat) (n : Nat) (s : Shared) : Prop where
  size : p.g < s.gens.size
  lim : s.heap.NoLimit
  own : ∃ (acc : Array Value) (c : Nat), s.heap.get? p.S = some (lstObj acc c) ∧ n + 1 + acc.size = sizeLine
  gen : ∀ q ∈ p.as, ∃ o, s.heap.get? q.1 = some o ∧ GenO q.2 o
theorem GIP.gives {X : Cx} {p : Seat} {ip : List (Addr × Obj)} {ys : List V} {σ : L2.St} {H : Hp} {s : Shared} {n : Nat} (h : GIP X p ip ys σ H s) (hz : p.g < s.gens.size) (hn : n + 1 + ys.length = sizeLine) : Gives p n s := by
  obtain ⟨⟨acc, c, e, r⟩, hg, I⟩ := h.facts
  have e1 := r.length
  have e2 : acc.toList.length = acc.size := by simp
  exact ⟨hz, I.nolimit, ⟨acc, c, e, by omega⟩, hg⟩
def turnsG (X : Cx) (p : Seat) (Q : List V → VK) : Turns where
  R := fun n r s => match r with
    | .ok (.ret u) => p.g < s.gens.size ∧ ∃ ys v ip σ H, n + ys.length = sizeLine ∧ GIP X p ip ys σ H s ∧ (∀ q ∈ ip, q.1 ∉ p.sp) ∧ RelV v u ∧ Q ys v H
    | _ => False
  Y := fun n v s => Gives p n s
  L := SleptP p
def GSPP (X : Cx) (p : Seat) (ip : List (Addr × Obj)) (D : GEnds) (ys : List V) (f : PySem.Flow) (s : Shared) : Prop :=
  match f with
  | .next => ∃ σ H, GIP X p ip ys σ H s ∧ D.nx ys σ H
  | .brk => ∃ σ H, GIP X p ip ys σ H s ∧ D.bk ys σ H
  | .cont => ∃ σ H, GIP X p ip ys σ H s ∧ D.ct ys σ H
  | .ret u => ∃ v σ H, GIP X p ip ys σ H s ∧ RelV v u ∧ D.rt ys v H
structure GAt (X : Cx) (p : Seat) (ip : List (Addr × Obj)) (A : Around) (c : Code) (fs : List Frame) (gd : Bool → Bool) : Prop where
  sits : Sits X p
  ip : ∀ q ∈ ip, q.1 ∉ p.sp
  over : A.over c fs = X.A
  split : splitAtGen fs = none
  guard : fs.any Frame.guarded = false
  gd : gd false = false
abbrev Run (X : Cx) (p : Seat) (A : Around) (Q : List V → VK) : Nat → Code → Sem PySem.Fin → List Frame → Shared → Prop := FlowP (model X.prog X.w) A (turnsG X p Q)
structure GKP (X : Cx) (p : Seat) (ip : List (Addr × Obj)) (A : Around) (Q : List V → VK) (c : Code) (fs : List Frame) (K : PySem.Flow → Sem PySem.Fin) (D : GEnds) : Prop where
  ok : ∀ (n : Nat) (ys : List V) (s : Shared) (f : PySem.Flow), n + ys.length = sizeLine → p.g < s.gens.size → GSPP X p ip D ys f s → Run X p A Q n c (K f) fs s
structure GPS (X : Cx) (st : Stmt) (t : TGn) : Prop where
  run : ∀ (A : Around) (p : Seat) (ip : List (Addr × Obj)) (Q : List V → VK) (n : Nat) (ys : List V) (c : Code) (fs : List Frame) (K : PySem.Flow → Sem PySem.Fin) (J : Value → Sem PySem.Fin) (gd : Bool → Bool) (lv : List Value → List Value) (s : Shared) (σ : L2.St) (H : Hp) (D : GEnds),
    GAt X p ip A c fs gd → n + ys.length = sizeLine → GKP X p ip A Q c fs K D → GIP X p ip ys σ H s → p.g < s.gens.size → t D ys σ H → Run X p A Q n c ((exec st X.env).wrap K J gd lv) fs s
structure GPSs (X : Cx) (st : List Stmt) (t : TGn) : Prop where
  run : ∀ (A : Around) (p : Seat) (ip : List (Addr × Obj)) (Q : List V → VK) (n : Nat) (ys : List V) (c : Code) (fs : List Frame) (K : PySem.Flow → Sem PySem.Fin) (J : Value → Sem PySem.Fin) (gd : Bool → Bool) (lv : List Value → List Value) (s : Shared) (σ : L2.St) (H : Hp) (D : GEnds),
    GAt X p ip A c fs gd → n + ys.length = sizeLine → GKP X p ip A Q c fs K D → GIP X p ip ys σ H s → p.g < s.gens.size → t D ys σ H → Run X p A Q n c ((execs st X.env).wrap K J gd lv) fs s
section
variable {X : Cx} {st : Stmt} {rest body orelse : List Stmt} {e c : Expr} {yp pos : Pos}
theorem sp_gspp {p : Seat} {acc : Array Value} {cc : Nat} {pl ip : List (Addr × Obj)} {s : Shared} {D : GEnds} {ys : List V} {f : PySem.Flow} (r : Vals ys acc.toList) (g : GPins p.as pl) (h : SP X ((p.S, lstObj acc cc) :: (pl ++ ip)) (D.at ys) f s) : GSPP X p ip D ys f s := by
  cases f with
  | next => obtain ⟨σ, H, I, q⟩ := h; exact ⟨σ, H, ⟨acc, cc, pl, r, g, I⟩, q⟩
  | brk => obtain ⟨σ, H, I, q⟩ := h; exact ⟨σ, H, ⟨acc, cc, pl, r, g, I⟩, q⟩
  | cont => obtain ⟨σ, H, I, q⟩ := h; exact ⟨σ, H, ⟨acc, cc, pl, r, g, I⟩, q⟩
  | ret u => obtain ⟨v, σ, H, I, r1, q⟩ := h; exact ⟨v, σ, H, ⟨acc, cc, pl, r, g, I⟩, r1, q⟩
theorem gps_of {t : TS} (h : PS X st t) : GPS X st (tPlain t) := by
  refine ⟨fun A p ip Q n ys c fs K J gd lv s σ H D g hn k hI hsz ht => ?_⟩
  obtain ⟨acc, cc, pl, r, gp, I⟩ := hI
  refine flow_wrap ?_
  rw [g.over]
  exact any_of (wpAny_gsz hsz (wpAny_mono (h.run _ s σ H (D.at ys) I ht) (fun f s' hs hz => k.ok n ys s' f hn hz (sp_gspp r gp hs)) fun x s' hx _ => (g.sits.no x s' hx).elim))
theorem gpss_of {t : TS} (h : PSs X rest t) : GPSs X rest (tPlain t) := by
  refine ⟨fun A p ip Q n ys c fs K J gd lv s σ H D g hn k hI hsz ht => ?_⟩
  obtain ⟨acc, cc, pl, r, gp, I⟩ := hI
  refine flow_wrap ?_
  rw [g.over]
  exact any_of (wpAny_gsz hsz (wpAny_mono (h.run _ s σ H (D.at ys) I ht) (fun f s' hs hz => k.ok n ys s' f hn hz (sp_gspp r gp hs)) fun x s' hx _ => (g.sits.no x s' hx).elim))
theorem gpss_cons {t u : TGn} (a : GPS X st t) (b : GPSs X rest u) : GPSs X (st :: rest) (tGThen t u) := by
  refine ⟨fun A p ip Q n ys c fs K J gd lv s σ H D g hn k hI hsz ht => ?_⟩
  rw [execs_cons_wrap]
  refine a.run A p ip Q n ys c fs _ J gd lv s σ H { D with nx := fun ys' σ' H' => u D ys' σ' H' } g hn ⟨fun n' ys' s' f hn' hz hs => ?_⟩ hI hsz ht
  cases f with
  | next =>
    obtain ⟨σ', H', I', q⟩ := hs
    exact b.run A p ip Q n' ys' c fs K J gd lv s' σ' H' D g hn' k I' hz q
  | brk => exact k.ok n' ys' s' .brk hn' hz hs
  | cont => exact k.ok n' ys' s' .cont hn' hz hs
  | ret u => exact k.ok n' ys' s' (.ret u) hn' hz hs
theorem gpss_one {t : TGn} (a : GPS X st t) : GPSs X [st] t := by
  refine ⟨fun A p ip Q n ys c fs K J gd lv s σ H D g hn k hI hsz ht => ?_⟩
  rw [execs_cons_wrap]
  refine a.run A p ip Q n ys c fs _ J gd lv s σ H D g hn ⟨fun n' ys' s' f hn' hz hs => ?_⟩ hI hsz ht
  cases f with
  | next => exact k.ok n' ys' s' .next hn' hz hs
  | brk => exact k.ok n' ys' s' .brk hn' hz hs
  | cont => exact k.ok n' ys' s' .cont hn' hz hs
  | ret u => exact k.ok n' ys' s' (.ret u) hn' hz hs
def tGIf (tc : TT) (t u : TGn) : TGn := fun D ys σ H => tc σ H fun b H1 => if b = true then t D ys σ H1 else u D ys σ H1
theorem gps_if {tc : TT} {t u : TGn} (hc : PT X c tc) (ha : GPSs X rest t) (hb : GPSs X body u) : GPS X (.If c rest body pos) (tGIf tc t u) := by
  refine ⟨fun A p ip Q n ys cd fs K J gd lv s σ H D g hn k hI hsz ht => ?_⟩
  obtain ⟨acc, cc, pl, r, gp, I⟩ := hI
  rw [arm_exec_If]
  refine flow_bindw (standP (flow_bindw ?_))
  rw [g.over]
  refine any_of (wpAny_gsz hsz (wpAny_mono (hc.run _ s σ H _ I ht) (fun b s' hs hz => ?_) fun x s' hx _ => (g.sits.no x s' hx).elim))
  obtain ⟨H1, I1, q⟩ := hs
  cases b with
  | true => exact ha.run A p ip Q n ys cd fs K J gd lv s' σ H1 D g hn k ⟨acc, cc, pl, r, gp, I1⟩ hz q
  | false => exact hb.run A p ip Q n ys cd fs K J gd lv s' σ H1 D g hn k ⟨acc, cc, pl, r, gp, I1⟩ hz q
theorem gps_yield {te : TE} (he : PE X e te) (hco : X.env.scope.isCoroutine = false) (hi : interactive X.env = false) : GPS X (.Expr (.Yield (some e) yp) pos) (tGYield te) := by
  refine ⟨fun A p ip Q n ys c fs K J gd lv s σ H D g hn k hI hsz ht => ?_⟩
  obtain ⟨hlt, ht⟩ := ht
  obtain ⟨n, rfl⟩ : ∃ m, n = m + 1 := ⟨n - 1, by omega⟩
  obtain ⟨acc, cc, pl, r, gp, I⟩ := hI
  have hy : ∀ v, yieldOut X.env v = yieldValue v := fun v => by simp only [yieldOut, hco, Bool.false_eq_true, if_false]
  rw [exec_Expr X.env _ pos hi rfl]
  show Run X p A Q (n + 1) c (.at pos fun _ => ((eval e X.env >>= fun v => (standAt yp >>= fun _ => yieldOut X.env v)) >>= fun x => dropValue (.Yield (some e) yp) pos x).wrap K J gd lv) fs s
  simp only [hy]
  refine flow_at ?_
  rw [Sem.bind_eq_wrap', Sem.bind_eq_wrap', Sem.wrap_wrap, Sem.wrap_wrap]
  refine flow_wrap ?_
  rw [g.over]
  refine any_of (wpAny_gsz hsz (wpAny_mono (he.run _ s σ H _ I ht) (fun v s' hv hz => ?_) fun x s' hx _ => (g.sits.no x s' hx).elim))
  obtain ⟨x, H1, I1, rv, q⟩ := hv
  have G1 : GIP X p ip ys σ H1 s' := ⟨acc, cc, pl, r, gp, I1⟩
  refine flow_at (flow_yield g.split g.gd g.guard (G1.gives hz hn) fun s'' z => ?_)
  refine k.ok n (ys ++ [x]) s'' .next ?_ (Nat.lt_of_lt_of_le hz z.size) ⟨σ, H1, G1.woken g.sits g.ip rv z, q⟩
  rw [List.length_append, List.length_singleton]; omega
/-! ### for -/
/-- W: the invariant by the turn and a measure; N: what the body is to reach -/
def tGFor (wi : TI) (g : TG) (tb : TGn) : TGn := fun D ys σ H => wi σ H fun J H1 => ∃ W : Nat → Nat → List V → L2.St → Hp → Prop, (∃ m, W 0 m ys σ H1) ∧ ∀ i m ys σ H, W i m ys σ H →
  (J.stop i H ∧ D.nx ys σ H) ∨ (J.go i H ∧ ∃ N : List V → L2.St → Hp → Prop, (∀ ys' σ' H', N ys' σ' H' → ∃ m', m' < m ∧ W (i + 1) m' ys' σ' H') ∧ ∀ x H', J.yld i H x H' → g x σ H' fun σ2 H2 => tb { D with nx := N, ct := N, bk := D.nx } ys σ2 H2)
theorem GAt.loop {p : Seat} {ip ip' : List (Addr × Obj)} {A : Around} {c c' : Code} {fs : List Frame} {gd : Bool → Bool} {k : Result → Sem PySem.Fin} {l kp : List Value} {q : Pos} (g : GAt X p ip A c fs gd) (hip : ∀ q ∈ ip', q.1 ∉ p.sp) (hw : c'.weight = 0) (hu : c'.cUnits = 0) :
    GAt X p ip' A c' (.ret k none (gd false) l c q kp :: fs) id where
  sits := g.sits
  ip := hip
  over := (over_loop hw hu).trans g.over
  split := by
    show (splitAtGen fs).map _ = none
    rw [g.split]; rfl
  guard := by
    show (gd false || fs.any Frame.guarded) = false
    rw [g.gd, g.guard]; rfl
  gd := rfl
theorem gps_for {tg iter : Expr} {wi : TI} {gg : TG} {tb : TGn} (hc : X.calm = true) (hi : PI X tg iter wi) (hg : PG X tg gg) (hb : GPSs X body tb) (hs : ∀ x, foldedSetIterable iter X.env x = pure x) : GPS X (.For tg iter body [] pos) (tGFor wi gg tb) := by
  refine ⟨fun A p ip Q n ys c fs K J gd lv s σ H D g hn k hI hsz ht => ?_⟩
  obtain ⟨acc, cc, pl, r, gp, I⟩ := hI
  have no := g.sits.no
  rw [arm_exec_For]
  refine flow_bindw (standP (flow_bindw ?_))
  rw [g.over]
  refine any_of (wpAny_gsz hsz (wpAny_mono (hi.run _ s σ H _ I ht) (fun v s1 h1 hz1 => ?_) fun x s' hx _ => (no x s' hx).elim))
  refine flow_bindw ?_
  rw [hs]
  refine pureP (flow_bindw (standP (flow_bindw (holdingP ?_))))
  rw [g.over]
  refine any_of (wpAny_gsz hz1 (wpAny_mono h1 (fun itv s2 h2 hz2 => ?_) fun x s' hx _ => (no x s' hx).elim))
  obtain ⟨it, fp, tn, JJ, H2, e, I2, T, st2, f2, W, ⟨m0, w0⟩, turn⟩ := h2
  subst e
  have stat : ∀ {H' : Hp}, (∀ b ∈ fp, H' b = none) → ∀ {pp : List (Addr × Obj)}, (∀ q ∈ pp, ∀ b ∈ fp, q.1 ≠ b) → ∀ b ∈ fp, FpOk X pp H' b := fun {H'} hn {pp} hp b hb => by
    obtain ⟨_, q1, q2, q3, q4, _⟩ := f2 b hb
    exact ⟨hn b hb, q1, q2, q3, q4, fun q hq => by
      rw [g.sits.pn] at hq
      exact hp q hq b hb⟩
  have apart : ∀ q ∈ (p.S, lstObj acc cc) :: (pl ++ ip), ∀ b ∈ fp, q.1 ≠ b := fun q hq b hb => (f2 b hb).2.2.2.2.2 q (List.mem_append_right _ hq)
  have fsp : ∀ b ∈ fp, b ∉ p.sp := fun b hb hm => by
    rcases List.mem_cons.mp hm with rfl | hm
    · exact apart _ List.mem_cons_self _ hb rfl
    · obtain ⟨q, hq, rfl⟩ := List.mem_map.mp hm
      obtain ⟨o, h1, _⟩ := gp.mem q hq
      exact apart (q.1, o) (List.mem_cons_of_mem _ (List.mem_append_left _ h1)) _ hb rfl
  have pins : ∀ {pl' : List (Addr × Obj)} {acc' : Array Value} {c' : Nat}, GPins p.as pl' → ∀ q ∈ (p.S, lstObj acc' c') :: (pl' ++ ip), ∀ b ∈ fp, q.1 ≠ b := fun {pl' acc' c'} gp' q hq b hb => by
    rcases List.mem_cons.mp hq with rfl | hq
    · exact fun e => fsp b hb (e ▸ List.mem_cons_self)
    · rcases List.mem_append.mp hq with hq | hq
      · obtain ⟨j, h1, _⟩ := gp'.back q hq
        exact fun e => fsp b hb (e ▸ List.mem_cons_of_mem _ (List.mem_map.mpr ⟨_, h1, rfl⟩))
      · exact apart q (List.mem_cons_of_mem _ (List.mem_append_right _ hq)) b hb
  refine flow_call fun q => ?_
  have loop : ∀ (m n i : Nat) (ys : List V) (s : Shared) (σ : L2.St) (H : Hp), n + ys.length = sizeLine → W i m ys σ H → GIP X p ip ys σ H s → tn i s.heap → (∀ b ∈ fp, H b = none) → p.g < s.gens.size →
      ∀ (l : List Value) (kk : Result → Sem PySem.Fin), (∀ (n : Nat) (ys : List V) (s : Shared) (f : PySem.Flow), n + ys.length = sizeLine → p.g < s.gens.size → GSPP X p ip D ys f s → Run X p A Q n c (kk (.ok f)) fs s) →
      Run X p A Q n (.forLoop tg (.ref it) body [] X.env) ((model X.prog X.w).den (.forLoop tg (.ref it) body [] X.env)) (.ret kk none (gd false) l c q [] :: fs) s := by
    intro m
    induction m using Nat.strongRecOn with
    | ind m ih =>
      intro n i ys s σ H hn w hI htn hfp hsz l kk hk
      have hover : A.over (.forLoop tg (.ref it) body [] X.env) (.ret kk none (gd false) l c q [] :: fs) = X.A := (over_loop rfl rfl).trans g.over
      show Run X p A Q n _ ((forTurn tg (.ref it) body [] X.env).onRaise (fun x => do noteFrame x X.env; theTreesLotGoes x)) _ s
      rw [Sem.onRaise_eq_wrap]
      unfold forTurn
      refine flow_bindw (standP (flow_bindw (onRaiseP ?_)))
      rw [hover]
      obtain ⟨acc, cc, pl, r, gp, I⟩ := hI
      rcases turn i m ys σ H w with ⟨stop, qn⟩ | ⟨go, N, hN, step⟩
      · refine any_of (wpAny_gsz hsz (wpAny_mono (T.done X rfl rfl rfl hc i _ s σ H (fun _ _ => False) I (stat hfp (pins gp)) htn stop) (fun rr s4 hr hz => ?_) fun x s' hx _ => hx.elim))
        obtain ⟨rfl, I4⟩ := hr
        show Run X p A Q n _ (.pure (.again (.block [] X.env))) _ s4
        refine flow_again rfl ?_
        exact flow_leaf (.ok .next) (hk n ys s4 .next hn hz ⟨σ, H, ⟨acc, cc, pl, r, gp, I4⟩, qn⟩)
      · refine any_of (wpAny_gsz hsz (wpAny_mono (T.item X rfl rfl rfl hc i _ s σ H (fun _ _ => False) I (stat hfp (pins gp)) htn go) (fun rr s4 hr hz => ?_) fun x s' hx _ => hx.elim))
        obtain ⟨u, rfl, h4⟩ := hr
        dsimp only
        refine flow_bindw ?_
        rw [hover]
        refine any_of (wpAny_gsz hz (wpAny_mono h4 (fun _ s5 h5 hz5 => ?_) fun x s' hx _ => hx.elim))
        obtain ⟨x, H5, I5, r5, y5, st5, fr5⟩ := h5
        have I5' := I5.pinned (stat fr5 (pins gp)) (T.obj _ _ st5)
        refine flow_bindw ?_
        rw [hover]
        refine any_of (wpAny_gsz hz5 (wpAny_mono (hg.run _ s5 σ H5 x u _ I5' r5 (step x H5 y5)) (fun _ s6 h6 hz6 => ?_) fun x s' hx _ => (no x s' hx).elim))
        obtain ⟨σ6, H6, I6, q6⟩ := h6
        rw [Sem.bind_eq_wrap', Sem.wrap_wrap]
        have hip' : ∀ q ∈ ip ++ pinsAt fp s5.heap, q.1 ∉ p.sp := fun q hq => by
          rcases List.mem_append.mp hq with hq | hq
          · exact g.ip q hq
          · exact fsp _ (of_pinsAt hq).1
        have G6 : GIP X p (ip ++ pinsAt fp s5.heap) ys σ6 H6 s6 := ⟨acc, cc, pl, r, gp, by
          have := I6
          rw [List.cons_append, List.append_assoc] at this
          exact this⟩
        have less : ∀ {ys' : List V} {σ7 : L2.St} {H7 : Hp} {s7 : Shared}, GIP X p (ip ++ pinsAt fp s5.heap) ys' σ7 H7 s7 → GIP X p ip ys' σ7 H7 s7 := fun {ys' σ7 H7 s7} h => by
          obtain ⟨a1, c1, p1, r1, g1, I1⟩ := h
          refine ⟨a1, c1, p1, r1, g1, Inv.unpinned (pl := pinsAt fp s5.heap) ?_⟩
          rw [List.cons_append, List.append_assoc]
          exact I1
        have again : ∀ {n' : Nat} {ys' : List V} {σ7 : L2.St} {H7 : Hp} {s7 : Shared}, n' + ys'.length = sizeLine → p.g < s7.gens.size → GIP X p (ip ++ pinsAt fp s5.heap) ys' σ7 H7 s7 → N ys' σ7 H7 →
            Run X p A Q n' (.forLoop tg (.ref it) body [] X.env) (.pure (.again (.forLoop tg (.ref it) body [] X.env))) (.ret kk none (gd false) l c q [] :: fs) s7 := fun {n' ys' σ7 H7 s7} hn7 hz7 h n7 => by
          obtain ⟨m', hm, w7⟩ := hN ys' σ7 H7 n7
          have h7 := h
          obtain ⟨a1, c1, p1, r1, g1, I1⟩ := h7
          refine flow_again rfl (ih m' hm n' (i + 1) ys' s7 σ7 H7 hn7 w7 (less h) (T.keep _ _ _ st5 fun b hb o e => ?_) (fun b hb => ?_) hz7 l kk hk)
          · exact (I1.pin (b, o) (List.mem_append_right _ (List.mem_cons_of_mem _ (List.mem_append_right _ (List.mem_append_right _ (mem_pinsAt hb e)))))).1
          · obtain ⟨o, e, d⟩ := T.obj _ _ st5 b hb
            exact (I1.pin (b, o) (List.mem_append_right _ (List.mem_cons_of_mem _ (List.mem_append_right _ (List.mem_append_right _ (mem_pinsAt hb e)))))).2.1
        refine hb.run A p _ Q n ys _ _ _ _ id id s6 σ6 H6 { D with nx := N, ct := N, bk := D.nx } (GAt.loop g hip' rfl rfl) hn ⟨fun n' ys' s7 f hn7 hz7 hs7 => ?_⟩ G6 hz6 q6
        cases f with
        | next =>
          obtain ⟨σ7, H7, I7, n7⟩ := hs7
          exact again hn7 hz7 I7 n7
        | cont =>
          obtain ⟨σ7, H7, I7, n7⟩ := hs7
          exact again hn7 hz7 I7 n7
        | brk =>
          obtain ⟨σ7, H7, I7, q7⟩ := hs7
          exact flow_leaf (.ok .next) (hk n' ys' s7 .next hn7 hz7 ⟨σ7, H7, less I7, q7⟩)
        | ret v =>
          obtain ⟨x7, σ7, H7, I7, r7, q7⟩ := hs7
          exact flow_leaf (.ok (.ret v)) (hk n' ys' s7 (.ret v) hn7 hz7 ⟨x7, σ7, H7, less I7, r7, q7⟩)
  exact loop m0 n 0 ys s2 σ H2 hn w0 ⟨acc, cc, pl, r, gp, I2⟩ st2 (fun b hb => (f2 b hb).1) hz2 _ _ fun n ys s f hn hz hs => k.ok n ys s f hn hz hs
end
end RP


set_option maxHeartbeats 1000000
/-! EvRH: the next item of a generator over Runs+; the turns of «yield from» over a generator. -/
namespace RP
open PySem PySem.Spec PyProof.Rows L2 GenW

section
variable {prog : Program} {w : World} {A : Around} {s : Shared} {E : Value → Shared → Prop}
theorem call_builtinP {id : String} {args : Args} {b : Builtin} {R : Result → Shared → Prop} (hq : plainId id = true) (hb : entryFor table id = some b)
    (h : wpAnyP (model prog w) A.in1 (checkBuiltinCall id args) (fun _ s₁ => wpAnyP (model prog w) A.in1 (b args) (fun fin s' => match fin with | .done f => R (.ok f) s' | .again c' => c'.quiet = true ∧ codeAnyP (model prog w) A c' R s') (fun e s' => R (.error e) s') s₁)
      (fun e s' => R (.error e) s') s) : codeAnyP (model prog w) A (.call (.builtin id) args) R s := by
  refine code_tree ?_
  show wpAnyP _ A.in1 (do checkBuiltinCall id args; again (.builtin id args)) _ _ s
  refine bindP (monoP h (fun _ s₁ h₁ => pureP ⟨plainId_quiet hq args, code_tree ?_⟩) fun _ _ z => z)
  rw [Around.under_plainId hq args]
  show wpAnyP _ _ (match entryFor table id with | some b => b args | none => unsupported ((withoutEnding? id "#data").getD id)) _ _ s₁
  rw [hb]; exact h₁
theorem call_entryP {T : String} {name : Str} {id : String} {b : Builtin} {self : Value} {rest : List Value} {Q : Value → Shared → Prop} (h : Slot T name id) (hT : s.TypeIs self T) (hb : entryFor table id = some b)
    (hc : wpAnyP (model prog w) A.in1 (b ⟨self :: rest, []⟩) (fun fin s' => ∃ v, fin = .done (.ret v) ∧ Q v s') E s) (ha : argsOk id ⟨self :: rest, []⟩) : wpAnyP (model prog w) A (call (.builtin id) (self :: rest)) Q E s := by
  refine callP (call_builtinP h.plain hb (any_of (h.check _ _ _ _ _ _ _ _ hT ha (monoP hc (fun fin s' h' => ?_) fun _ _ z => z))))
  obtain ⟨v, rfl, q⟩ := h'
  exact q
theorem specialP {self : Value} {T : String} {name : Str} {id : String} {args : List Value} {kw : List (Str × Value)} {Q : Option Value → Shared → Prop} (hT : s.TypeIs self T) (h : Slot T name id) (hc : wpAnyP (model prog w) A (call (.builtin id) (self :: args) kw) (fun v => Q (some v)) E s) :
    wpAnyP (model prog w) A (callSpecial? self name args kw) Q E s := by
  simp only [callSpecial?]
  refine bindP (any_of (wpAny_specialOf hT h.lookup ?_))
  simp only [h.bind]
  exact holdingP (bindP (pureP (bindP (monoP hc (fun v s' z => pureP z) fun _ _ z => z))))
theorem genNumber_any {M : Model} {a : Addr} {g : Nat} {o : Obj} {Q : Nat → Shared → Prop} (ho : s.heap.get? a = some o) (hg : GenO g o) (h : Q g s) : wpAny M A (Builtin.Generator.genNumber (.ref a)) Q E s := by
  obtain ⟨nm, qn, _, hd, hsl⟩ := hg
  unfold Builtin.Generator.genNumber
  refine wpAny_bind (wpAny_load ho ?_)
  rcases hsl with hsl | ⟨t, hsl⟩
  · rw [hsl, hd]
    show wpAny M A (pure ((g : Int).toNat)) Q E s
    rw [Int.toNat_natCast]; exact wpAny_pure h
  · rw [hsl, hd]
    show wpAny M A (pure ((g : Int).toNat)) Q E s
    rw [Int.toNat_natCast]; exact wpAny_pure h
theorem GenO.typeIs {a : Addr} {g : Nat} {o : Obj} (hg : GenO g o) (ho : s.heap.get? a = some o) : s.TypeIs (.ref a) "generator" := let ⟨_, _, hc, _⟩ := hg; ⟨o, ho, hc⟩
/-- the next item, or the end -/
theorem nextGP {a : Addr} {g n : Nat} {o : Obj} {gs : GenState} {T : Turns} {Q : Option Value → Shared → Prop} (hh : A.handled = none) (hl : s.heap.NoLimit) (hroom : A.depth < recursionLimit) (ho : s.heap.get? a = some o) (hg : GenO g o) (hgs : s.gens[g]? = some gs)
    (hgo : GoesP (model prog w) A.in1 T n gs (s.setGen g .running))
    (hY : ∀ m v s₁ gs', n = m + 1 → T.Y m v s₁ → (∀ s'', T.L v s₁ s'' → GoesP (model prog w) A.in1 T m gs' s'') → Q (some v) (s₁.setGen g gs'))
    (hR : ∀ r s₁, T.R n r s₁ → r = .ok (.ret .none) ∧ ∀ e h', StopX e h' → (∀ b o, s₁.heap.get? b = some o → h'.get? b = some o) → E e { s₁.setGen g .finished with heap := h' }) :
    wpAnyP (model prog w) A (callSpecial? (.ref a) "__next__") Q E s := by
  refine specialP (name := Str.ofString "__next__") (hg.typeIs ho) slot_gen_next (call_entryP slot_gen_next (hg.typeIs ho) entry_gen_next ?_ (args_gen_next _))
  show wpAnyP _ A.in1 (Builtin.Generator.genWake (.ref a) (.send .none)) _ _ s
  unfold Builtin.Generator.genWake
  refine bindP (any_of (wpAny_holding (genNumber_any ho hg ?_)))
  refine bindP (any_of (wpAny_genState hgs ?_))
  cases gs with
  | running => exact hgo.elim
  | finished => exact hgo.elim
  | _ =>
    refine bindP (any_of (wpAny_roomToWake hl hroom ?_))
    show wpAnyP _ A.in1 (.resume g (.send .none) [] _) _ _ s
    refine resumeP hgs hgo (fun r s₁ hr => ?_) (fun m v s₁ gs' hn hy hk => ?_)
    · obtain ⟨rfl, hE⟩ := hR r s₁ hr
      show wpAnyP _ A.in1 (newExc (.type "StopIteration") [] >>= _) _ _ _
      refine any_of (wpAny_bind ?_)
      simp only [newExc, newTuple]
      refine wpAny_bind (wpAny_newObj_type ?_ (by size_fits))
      refine wpAny_bind (m := firstArgMember _ _) (wpAny_of_eq (a := Value.none) (by first | rfl | (simp only [firstArgMember]; rfl)) ?_)
      refine wpAny_newObj_type ?_ (by size_fits)
      simp only [raiseNew]
      refine wpAny_bind (wpAny_bind (wpAny_handled ?_))
      first | rw [show A.in1.handled = none from hh] | rw [hh]
      refine wpAny_throw ?_
      refine hE _ _ ⟨_, _, _, rfl, Heap.get?_push_size _ rfl, rfl, rfl, ?_⟩ fun b ob hb => Heap.get?_push_of_some _ (Heap.get?_push_of_some _ hb)
      first
        | rfl
        | (rw [Array.getElem?_append_left (by decide)]; rfl)
        | kernel_rfl
    · exact pureP ⟨v, rfl, hY m v s₁ gs' hn hy hk⟩
end
theorem close_gen : typeLookup (.type "generator") "close" = pure (some (.builtin "generator.close")) := by rw [typeLookup_type, builtinLookup_eq_fast]; kernel_rfl
/-- nobody sleeps over it, one does -/
theorem sleptOver_any {M : Model} {A : Around} {E : Value → Shared → Prop} {s : Shared} {a : Addr} {o : Obj} {b : Bool} {Q : Unit → Shared → Prop} (ho : s.heap.get? a = some o) (hc : o.cls = .type "generator")
    (h : ∀ i : Int, (i = match (o.slots[0]? : Option (Option Value)) with | some (some (Value.int n _)) => n | _ => 0) → Q () { s with heap := s.heap.update a fun o => { o with slots := (o.slots ++ Array.replicate (0 + 1 - o.slots.size) none).setIfInBounds 0 (some (rawInt (if b then i + 1 else i - 1))) } }) :
    wpAny M A (Builtin.Generator.sleptOver (.ref a) b) Q E s := by
  unfold Builtin.Generator.sleptOver
  refine wpAny_bind (wpAny_load ho ?_)
  rw [hc, if_neg (by decide)]
  unfold setSlotAt
  have hz : ¬ (0 ≥ sizeLine) := by rw [sizeLine_eq]; omega
  show wpAny M A (ite (0 ≥ sizeLine) _ _) Q E s
  rw [if_neg hz]
  exact wpAny_updatePart ho (h _ rfl)
end RP


set_option maxHeartbeats 1000000
/-! EvRI: the turns of «yield from» over a generator. -/
namespace RP
open PySem PySem.Spec PyProof.Rows L2 GenW

abbrev yfC (a : Addr) : Code := .builtin "proto.yield_from" ⟨[.ref a, .bool false, .none], []⟩
/-- one sleeps over it -/
def GenS (g : Nat) (o : Obj) : Prop := ∃ nm qn, o.cls = .type "generator" ∧ o.data = .fields #[.int g 0, nm, qn] ∧ o.slots = #[some (.int 1 0)]
theorem GenS.number {g : Nat} {o : Obj} (h : GenS g o) : o.genNumber?.isSome = true := by
  obtain ⟨nm, qn, e1, e2, _⟩ := h
  unfold Obj.genNumber?
  rw [e1, e2]
  rfl
def slotIt (i : Int) (o : Obj) : Obj := { o with slots := (o.slots ++ Array.replicate (0 + 1 - o.slots.size) none).setIfInBounds 0 (some (rawInt i)) }
theorem sleeps {g : Nat} {o : Obj} (h : GenO g o) : GenS g (slotIt 1 o) := by
  obtain ⟨nm, qn, e1, e2, e3⟩ := h
  refine ⟨nm, qn, e1, e2, ?_⟩
  show (o.slots ++ Array.replicate (0 + 1 - o.slots.size) none).setIfInBounds 0 (some (rawInt 1)) = _
  rcases e3 with e3 | ⟨t, e3⟩ <;> rw [e3] <;> rfl
theorem wakes {g : Nat} {o : Obj} (h : GenS g o) : GenO g (slotIt 0 o) := by
  obtain ⟨nm, qn, e1, e2, e3⟩ := h
  refine ⟨nm, qn, e1, e2, .inr ⟨0, ?_⟩⟩
  show (o.slots ++ Array.replicate (0 + 1 - o.slots.size) none).setIfInBounds 0 (some (rawInt 0)) = _
  rw [e3]; rfl
theorem slotIt_live {i : Int} {o : Obj} {vs : Array Value} (h : o.data = .fields vs) : (slotIt i o).isFreed = false := Obj.isFreed_of_fields (show (slotIt i o).data = .fields vs from h)
theorem setGen_ne {s : Shared} {g j : Nat} {x : GenState} (h : j ≠ g) : (s.setGen g x).gens[j]? = s.gens[j]? := by
  show (s.gens.setIfInBounds g x)[j]? = _
  rw [Array.getElem?_setIfInBounds_ne (Ne.symm h)]
theorem field_stop {M : Model} {A : Around} {E : Value → Shared → Prop} {s : Shared} {e : Value} {Q : Value → Shared → Prop} (h : StopX e s.heap) (q : Q .none s) : wpAny M A (field e 5) Q E s := by
  obtain ⟨a, o, vs, rfl, e1, e2, e3, e4⟩ := h
  exact wpAny_field e1 e3 e4 q
theorem ends_stop {M : Model} {A : Around} {E : Value → Shared → Prop} {s : Shared} {e : Value} {Q : Bool → Shared → Prop} (h : StopX e s.heap) (q : Q true s) : wpAny M A (Builtin.Generator.endsTheTurnAsAValue false e) Q E s := by
  obtain ⟨a, o, vs, rfl, e1, e2, e3, e4⟩ := h
  exact wpAny_endsTurn e1 e2 q
theorem Gives.apart {p : Seat} {n : Nat} {s : Shared} (h : Gives p n s) : cStatics ∉ p.sp := fun hm => by
  obtain ⟨mc, ⟨ob, es, ep, e, d, r⟩, hnn⟩ := h.lim
  rcases List.mem_cons.mp hm with hm | hm
  · obtain ⟨acc, c, e2, _⟩ := h.own
    rw [← hm, e] at e2
    cases e2
    cases d
  · obtain ⟨q, hq, hq2⟩ := List.mem_map.mp hm
    obtain ⟨o, e2, nm, qn, _, hd, _⟩ := h.gen q hq
    rw [hq2, e] at e2
    cases e2
    rw [hd] at d
    cases d
section
variable {A : Around} {X X2 : Cx} {p : Seat} {Q Q2 : List V → VK} {a2 : Addr} {g2 : Nat} {fs : List Frame}
theorem flow_yf (hh : (A.over (yfC a2) fs).handled = none) (hd : (A.over (yfC a2) fs).depth < recursionLimit) (hsp : splitAtGen fs = none) (hgd : fs.any Frame.guarded = false) (hg2 : p.g < g2) (ha2 : a2 ∉ p.sp) (hc2 : a2 ≠ cStatics) (hQ2 : ∀ ys v H, Q2 ys v H → v = .non)
    (hend : ∀ n s₁ h', (turnsG X2 ⟨p.S, g2, (a2, g2) :: p.as⟩ Q2).R n (.ok (.ret .none)) s₁ → (∀ b o, s₁.heap.get? b = some o → h'.get? b = some o) →
      FlowP (model X.prog X.w) A (turnsG X p Q) n (yfC a2) (.pure (.done (.ret .none))) fs { s₁.setGen g2 .finished with heap := h' }) :
    ∀ (n : Nat) (s : Shared) (gs : GenState) (o : Obj), s.heap.get? a2 = some o → GenO g2 o → s.heap.NoLimit → s.gens[g2]? = some gs → GoesP (model X.prog X.w) (A.over (yfC a2) fs).in1 (turnsG X2 ⟨p.S, g2, (a2, g2) :: p.as⟩ Q2) n gs (s.setGen g2 .running) →
      FlowP (model X.prog X.w) A (turnsG X p Q) n (yfC a2) ((model X.prog X.w).den (yfC a2)) fs s := by
  have core : ∀ n, (∀ m, n = m + 1 → ∀ (s : Shared) (gs : GenState) (o : Obj), s.heap.get? a2 = some o → GenO g2 o → s.heap.NoLimit → s.gens[g2]? = some gs → GoesP (model X.prog X.w) (A.over (yfC a2) fs).in1 (turnsG X2 ⟨p.S, g2, (a2, g2) :: p.as⟩ Q2) m gs (s.setGen g2 .running) →
        FlowP (model X.prog X.w) A (turnsG X p Q) m (yfC a2) ((model X.prog X.w).den (yfC a2)) fs s) →
      ∀ (s : Shared) (gs : GenState) (o : Obj), s.heap.get? a2 = some o → GenO g2 o → s.heap.NoLimit → s.gens[g2]? = some gs → GoesP (model X.prog X.w) (A.over (yfC a2) fs).in1 (turnsG X2 ⟨p.S, g2, (a2, g2) :: p.as⟩ Q2) n gs (s.setGen g2 .running) →
        FlowP (model X.prog X.w) A (turnsG X p Q) n (yfC a2) ((model X.prog X.w).den (yfC a2)) fs s := by
    intro n ih s gs o ho hg hl hgs hgo
    rw [den_yf]
    unfold Builtin.«proto.yield_from»
    try dsimp only
    refine flow_bind (pureP ?_)
    try dsimp only
    refine flow_bind (attemptP (holdingP ?_))
    rw [if_neg Bool.false_ne_true, if_pos (show (Value.none == Value.none) = true from rfl)]
    refine bindP (any_of (wpAny_rule ?_))
    refine bindP (nextGP hh hl hd ho hg hgs hgo (fun m v s₁ gs' hn hy hk => ?_) fun r s₁ hr => ?_)
    · obtain ⟨z1, z2, ⟨acc, c, z3, z3n⟩, z4⟩ := (show Gives ⟨p.S, g2, (a2, g2) :: p.as⟩ m s₁ from hy)
      obtain ⟨o1, e1, q1⟩ := z4 (a2, g2) List.mem_cons_self
      refine pureP ?_
      try dsimp only
      refine flow_bind (any_of (wpAny_typeOf (T := "generator") (q1.typeIs (s := s₁.setGen g2 gs') e1) ?_))
      try dsimp only
      first
        | (refine flow_bind (any_of (wpAny_of_eq close_gen ?_)); refine flow_bind (pureP ?_))
        | refine flow_bind (any_of (wpAny_bind (wpAny_of_eq close_gen (wpAny_pure ?_))))
        | refine flow_bind (any_of (wpAny_of_eq close_gen ?_))
      try dsimp only
      refine flow_bind (any_of (sleptOver_any (s := s₁.setGen g2 gs') (by exact e1) (let ⟨_, _, hc, _⟩ := q1; hc) fun i hi => ?_))
      have hi0 : i = 0 := by
        obtain ⟨_, _, _, _, hs | ⟨t, hs⟩⟩ := q1 <;> rw [hi, hs] <;> rfl
      subst hi0
      subst hn
      have hdat : ∃ vs, o1.data = .fields vs := let ⟨_, _, _, hd, _⟩ := q1; ⟨_, hd⟩
      obtain ⟨vs1, hdat⟩ := hdat
      have hother : ∀ {h : Heap} {i : Int} {b : Addr} {ob : Obj}, b ≠ a2 → h.get? b = some ob → (h.update a2 (slotIt i)).get? b = some ob := fun hb e => (Heap.get?_update_other _ _ (Ne.symm hb)).trans e
      have hself : (s₁.heap.update a2 (slotIt 1)).get? a2 = some (slotIt 1 o1) := Heap.get?_update_self _ e1 (slotIt_live hdat)
      have neS : p.S ≠ a2 := fun e => ha2 (e ▸ List.mem_cons_self)
      have neA : ∀ q ∈ p.as, q.1 ≠ a2 := fun q hq e => ha2 (e ▸ List.mem_cons_of_mem _ (List.mem_map_of_mem (f := (·.1)) hq))
      have gy : Gives p m { s₁.setGen g2 gs' with heap := s₁.heap.update a2 (slotIt 1) } :=
        ⟨by
          have := setGen_size s₁ g2 gs'
          show p.g < (s₁.setGen g2 gs').gens.size
          have z1' : g2 < s₁.gens.size := z1
          omega, let ⟨mc, hns, hnn⟩ := z2; ⟨mc, hns.at' fun o e => hother (Ne.symm hc2) e, hnn⟩, ⟨acc, c, hother neS z3, z3n⟩, fun q hq => let ⟨o, h1, h2⟩ := z4 q (List.mem_cons_of_mem _ hq); ⟨o, hother (neA q hq) h1, h2⟩⟩
      show FlowP _ _ _ (m + 1) (yfC a2) (.yield v true [] fun woken => _) fs { s₁.setGen g2 gs' with heap := s₁.heap.update a2 (slotIt 1) }
      refine flow_susp hsp (fun pp => .inr ⟨v, true, [], _, a2, [.bool false, .none], [], pp, fs, rfl, hgd, _, hself, (sleeps q1).number⟩) gy fun s'' z => ?_
      have hk2 : s''.heap.get? a2 = some (slotIt 1 o1) := z.keep a2 _ ha2 hself
      obtain ⟨_, _, hcs, _, hsl⟩ := id (sleeps q1)
      show FlowP _ _ _ m (yfC a2) (Builtin.Generator.sleptOver (.ref a2) false >>= fun _ => _) fs s''
      refine flow_bind (any_of (sleptOver_any hk2 hcs fun i hi => ?_))
      have hi1 : i = 1 := by rw [hi, hsl]; rfl
      subst hi1
      have hself3 : (s''.heap.update a2 (slotIt 0)).get? a2 = some (slotIt 0 (slotIt 1 o1)) := Heap.get?_update_self _ hk2 (slotIt_live (vs := vs1) hdat)
      show FlowP _ _ _ m (yfC a2) _ fs { s'' with heap := s''.heap.update a2 (slotIt 0) }
      try dsimp only
      refine flow_bind (pureP ?_)
      have hg2s : s''.gens[g2]? = some gs' := (z.up g2 hg2).trans (setGen_at z1)
      have hsz : g2 < s''.gens.size := (Array.getElem?_eq_some_iff.mp hg2s).1
      refine flow_again (plainId_quiet plain_yf _) (ih m rfl { s'' with heap := s''.heap.update a2 (slotIt 0) } gs' (slotIt 0 (slotIt 1 o1)) hself3 (wakes (sleeps q1)) ?_ hg2s (hk _ ?_))
      · obtain ⟨mc, hns, hnn⟩ := gy.lim
        exact ⟨mc, hns.at' fun o e => hother (Ne.symm hc2) (z.keep cStatics o gy.apart e), hnn⟩
      · refine ⟨z.os, ?_, fun j x hx => ?_, fun j hj => ?_, fun b ob hb e => ?_, fun ac cc e => ?_, fun q hq o e qo => ?_⟩
        · have h1 := setGen_size s₁ g2 gs'
          have h2 := setGen_size { s'' with heap := s''.heap.update a2 (slotIt 0) } g2 .running
          have h3 := z.size
          have h4 : (s₁.setGen g2 gs').gens.size ≤ s''.gens.size := h3
          have h5 : ({ s'' with heap := s''.heap.update a2 (slotIt 0) } : Shared).gens.size = s''.gens.size := rfl
          omega
        · by_cases hj : j = g2
          · subst hj
            have := setGen_at (s := { s'' with heap := s''.heap.update a2 (slotIt 0) }) (x := .running) hsz
            rw [this] at hx
            cases hx
            exact .inr rfl
          · rw [setGen_ne hj] at hx
            rcases z.bare j x hx with y | y
            · exact .inl ((setGen_ne hj).symm.trans y)
            · exact .inr y
        · have hj' : g2 < j := hj
          rw [setGen_ne (Nat.ne_of_gt hj')]
          exact (z.up j (Nat.lt_trans hg2 hj')).trans (setGen_ne (Nat.ne_of_gt hj'))
        · have hb2 : b ≠ a2 := fun e => hb (e ▸ List.mem_cons_of_mem _ List.mem_cons_self)
          have hbp : b ∉ p.sp := fun h => hb (by
            rcases List.mem_cons.mp h with h | h
            · rw [h]; exact List.mem_cons_self
            · exact List.mem_cons_of_mem _ (List.mem_cons_of_mem _ h))
          exact hother hb2 (z.keep b ob hbp (hother hb2 e))
        · obtain ⟨c', e'⟩ := z.own ac cc (hother neS e)
          exact ⟨c', hother neS e'⟩
        · rcases List.mem_cons.mp hq with rfl | hq
          · exact ⟨_, hself3, wakes (sleeps q1)⟩
          · obtain ⟨o', h1, h2⟩ := z.gen q hq o (hother (neA q hq) e) qo
            exact ⟨o', hother (neA q hq) h1, h2⟩
    · have hr1 : r = .ok (.ret .none) := by
        cases r with
        | error e => exact False.elim hr
        | ok fl =>
          cases fl with
          | ret u =>
            obtain ⟨_, ys, v, ip, σ, H, _, _, _, rv, hq⟩ := hr
            rw [hQ2 _ _ _ hq] at rv
            have : u = .none := rv
            rw [this]
          | _ => exact False.elim hr
      subst hr1
      refine ⟨rfl, fun e h' hS hk => ?_⟩
      try dsimp only
      refine flow_bind (any_of (ends_stop (s := { s₁.setGen g2 .finished with heap := h' }) hS ?_))
      try dsimp only
      rw [if_pos rfl]
      first
        | refine flow_bind (any_of (wpAny_rule ?_))
        | (rw [if_neg Bool.false_ne_true]; refine flow_bind (any_of (wpAny_rule ?_)))
        | (rw [if_neg Bool.false_ne_true]; refine flow_bind (pureP ?_); refine flow_bind (any_of (wpAny_rule ?_)))
      refine flow_bind (any_of (field_stop (s := { s₁.setGen g2 .finished with heap := h' }) hS ?_))
      exact hend n s₁ h' hr hk
  intro n
  induction n with
  | zero => exact core 0 fun m h => nomatch h
  | succ n ih => exact core (n + 1) fun m h => by cases h; exact ih
end
end RP


set_option maxHeartbeats 1000000
/-! EvRJ: a generator def by its body; what its call makes. -/
namespace RP
open PySem PySem.Spec PyProof.Rows L2 GenW EV

/-- the context of a generator's body; ex: the seat's objects that are older -/
def gxOf (P : Program) (w : World) (K : PySem.W.Frag) (mg : Str → Option Value) (base : Heap) (N : List Str) (qual : Str) (scope : Scope) (f : Addr) (cd : Value) (A : Around) (outer : List PySem.Env) (s : Shared) (H : Hp) (ex : List Addr) : Cx :=
  { cxOf CX0 P w K mg base N qual scope f cd A outer s H (fun _ _ _ => False) with ex := ex, xe := fun _ _ => False }
section
variable {P : Program} {w : World} {K : PySem.W.Frag} {mg : Str → Option Value} {base : Heap} {N : List Str} {qual : Str} {scope : Scope} {f : Addr} {cd : Value} {A : Around} {outer : List PySem.Env} {s s1 : Shared} {H H' : Hp} {ex : List Addr} {σ : L2.St} {E : XK}
theorem inv_gx (I : Inv (gcxOf P w K mg base N qual scope f cd A outer s H E []) [] σ H' s1) (h1 : ∀ b ∈ ex, b ≠ s.heap.objs.size ∧ ∀ x c, (cellsFrom (s.heap.objs.size + 1) scope.names []).lookup x = some c → c ≠ b) (h2 : ∀ b o, base.get? b = some o → b ∉ ex) (h3 : ∀ b ∈ ex, b ∉ frs outer) :
    Inv (gxOf P w K mg base N qual scope f cd A outer s H ex) [] σ H' s1 := by
  have ok := I.ok
  have ub := I.base
  have nn : ∀ b : Addr, b ∉ (gcxOf P w K mg base N qual scope f cd A outer s H E []).ex := fun b z => absurd (show b ∈ ([] : List Addr) from z) (by simp)
  exact ⟨⟨ok.mod, ok.kind, ok.glob, ok.blt, ok.above, ok.inj, ok.has, ok.cab, ok.hd, ok.frames, ok.stk, h1, ok.bs, ok.bsz, h2, h3, ok.funs, ok.frf⟩, I.os, I.bare,
    ⟨fun b o q n hf _ => ub.keep b o q n hf (nn b), fun b o q n hf _ => ub.slot b o q n hf (nn b), fun b o q n _ => ub.free b o q n (nn b), fun b o q _ => ub.there b o q (nn b), ub.tups, ub.frzs, ub.tbls⟩,
    I.loc, I.cell, I.free, I.freeC, fun p hp => absurd (show p ∈ ([] : List (Addr × Obj)) from hp) (by simp), I.hok, I.len⟩
end

/-- when a generator that was made (a, g; s ~> s' its call) begins in a seat -/
structure Begins (base : Heap) (outer : List PySem.Env) (H : Hp) (s s' : Shared) (a : Addr) (g : Nat) (S : Addr) (anc : List (Addr × Nat)) (ys : List V) (s2 : Shared) : Prop where
  sp : ∀ b ∈ S :: anc.map (·.1), H b = none ∧ b ∉ frs outer ∧ base.get? b = none ∧ (b < s.heap.objs.size ∨ s'.heap.objs.size ≤ b)
  own : ∃ (acc : Array Value) (c : Nat), s2.heap.get? S = some (lstObj acc c) ∧ Vals ys acc.toList
  gen : ∀ q ∈ anc, ∃ o, s2.heap.get? q.1 = some o ∧ GenO q.2 o
  keep : ∀ b o, b ∉ S :: anc.map (·.1) → s'.heap.get? b = some o → s2.heap.get? b = some o
  os : s2.os = s.os
  bare : AllBare s2.gens
  size : g < s2.gens.size
  few : ys.length ≤ sizeLine
/-- what a call of a generator def gives; ys: what will be gathered ahead of its run -/
def GMadeP (P : Program) (w : World) (base : Heap) (k : Nat) (outer : List PySem.Env) (H : Hp) (s : Shared) (ys : List V) (Q : List V → Hp → Prop) (u : Value) (s' : Shared) : Prop :=
  ∃ (a : Addr) (g : Nat) (c : Code), u = .ref a ∧ s.heap.objs.size ≤ a ∧ a < s'.heap.objs.size ∧ s'.heap.IsGen a g ∧ s'.gens[g]? = some (.fresh c) ∧ s.gens.size ≤ g ∧ s'.os = s.os ∧ AllBare s'.gens ∧ s'.heap.NoLimit ∧ (∀ b o, s.heap.get? b = some o → s'.heap.get? b = some o) ∧
    ∀ (A : Around) (S : Addr) (anc : List (Addr × Nat)) (s2 : Shared), RoomG k A → A.frames = some outer → Begins base outer H s s' a g S anc ys s2 → ∃ X : Cx, X.prog = P ∧ X.w = w ∧ X.s_0 = s ∧ X.H_0 = H ∧ X.fs = frs outer ∧ X.ex = S :: anc.map (·.1) ∧
      FlowP (model P w) A (turnsG X ⟨S, g, (a, g) :: anc⟩ fun ys' v H' => v = .non ∧ Q ys' H') (sizeLine - ys.length) c ((model P w).den c) [] s2
abbrev SpP := List V → Hp → List V → (List V → Hp → Prop) → Prop
structure GFnP (P : Program) (w : World) (K : PySem.W.Frag) (mg : Str → Option Value) (base : Heap) (k : Nat) (f : Addr) (fd : FuncData) (ps : List Str) (sp : SpP) : Prop where
  len : ∀ vs H ys Q, sp vs H ys Q → vs.length = ps.length
  run : ∀ (A : Around) (outer : List PySem.Env) (s : Shared) (H : Hp) (args : Args) (us : List Value) (vs ys : List V) (Q : List V → Hp → Prop), RoomG k A → Env0 P w K mg base A outer s H → BindsTo s fd args (ps.zip us) → Vals vs us → sp vs H ys Q →
    codeAny (model P w) A (.call (.ref f) args) (fun r s' => match r with | .ok (.ret u) => GMadeP P w base k outer H s ys Q u s' | _ => False) s
theorem flow_func {P : Program} {w : World} {A : Around} {T : Turns} {n : Nat} {fs : List Frame} {s : Shared} {env : PySem.Env} {body : List Stmt}
    (h : FlowP (model P w) A T n (.func body env) ((execs body env).wrap (fun f => .pure (.done (.ret (match f with | .ret v => v | _ => .none)))) (fun e => (leaving env e).wrap (fun _ => .raise e) .raise id id) id id) fs s) : FlowP (model P w) A T n (.func body env) ((model P w).den (.func body env)) fs s := by
  show FlowP _ A T n _ (.point [] fun _ => ((execs body env).onRaise (leaving env)) >>= _) fs s
  refine flow_point ?_
  rw [Sem.onRaise_eq_wrap, Sem.bind_eq_wrap', Sem.wrap_wrap]
  rw [Sem.wrap_congr (execs body env) _ _ (K' := fun f => .pure (.done (.ret (match f with | .ret v => v | _ => .none)))) (H' := fun e => (leaving env e).wrap (fun _ => .raise e) .raise id id) (fun f => by cases f <;> rfl) (fun e => by rw [Sem.bind_eq_wrap, Sem.wrap_wrap]; rfl)]
  exact h
/-- a generator def, by its body -/
theorem gfnP_of {P : Program} {w : World} {K : PySem.W.Frag} {mg : Str → Option Value} {base : Heap} {k : Nat} {f : Addr} {x qual : Str} {params : Arguments} {body : List Stmt} {scope : Scope} {dvs : List V} {kws : List (Str × V)} {fd : FuncData} {N ps : List Str} {sp : SpP} (F : FunD K x qual params body scope dvs kws f fd) (S : GScope N ps scope)
    (len : ∀ vs H ys Q, sp vs H ys Q → vs.length = ps.length)
    (hbody : ∀ (cdv : Value) (A : Around) (outer : List PySem.Env) (s : Shared) (H : Hp) (vs ys : List V) (Q : List V → Hp → Prop) (ex : List Addr), RoomG k (A.deeper (envOfC qual scope s.heap.objs.size f cdv)) → sp vs H ys Q →
      ∃ t, GPSs (gxOf P w K mg base N qual scope f cdv A outer s H ex) body t ∧ t { nx := fun ys' _ H' => Q ys' H', rt := fun ys' v H' => v = .non ∧ Q ys' H' } ys (start N vs) H) :
    GFnP P w K mg base (k + 1) f fd ps sp := by
  obtain ⟨oc, od, dV, kV, doc, pm, an, cdv, ct, osl, rfl, lk, hcd, -, -⟩ := F.ex
  refine ⟨len, fun A outer s H args us vs ys Q hr e0 hb r hsp => ?_⟩
  have hl := len _ _ _ _ hsp
  have KX : K.In s.heap := e0.mod.kin.keeps fun b o e => (e0.bs b o e).1
  have lim : s.heap.NoLimit := e0.mod.nolimit.keeps fun b o e => (e0.bs b o e).1
  have hkind : ∀ y ∈ ps.zip us, scope.names.lookup y.1 = some .local ∨ (scope.names.lookup y.1 = some .cell ∧ ((cellsFrom (s.heap.objs.size + 1) scope.names []).lookup y.1).isSome = true) := fun ⟨n, v⟩ hy => by
    rcases S.par n (List.of_mem_zip hy).1 with q | q
    · exact .inl q
    · exact .inr ⟨q, PySem.W.cellsFrom_some _ _ _ (.inl q)⟩
  refine codeAny_call_generator hr.room.depth (KX _ _ lk) rfl S.co S.gen rfl (PySem.W.codeRec_of KX hcd) (hb _ _ _ _ ?_)
  refine wpAny_newFunctionEnv_cells S.kind hkind fun env he s1 x => ?_
  subst he
  have lim1 : s1.heap.NoLimit := lim.keeps x.toInCall.keep
  refine ⟨lim1, ?_⟩
  obtain ⟨h1, tk, es1, hk1⟩ := x.done
  have os1 : s1.os = s.os := by rw [es1]
  have gen1 : s1.gens = s.gens := by rw [es1]
  have lt1 : s.heap.objs.size < s1.heap.objs.size := x.toInCall.ns.lt
  have sz1 : s.heap.objs.size ≤ s1.heap.objs.size := Nat.le_of_lt lt1
  have kp1 : ∀ b o, s.heap.get? b = some o → s1.heap.get? b = some o := x.toInCall.keep
  have main : ∀ (go : Obj) (nm qn : Value) (tk2 : Nat), go.cls = .type "generator" → go.data = .fields #[.int s1.gens.size 0, nm, qn] → go.slots = #[] → (∀ h : Heap, (h.push go).get? h.objs.size = some go) →
      GMadeP P w base (k + 1) outer H s ys Q (.ref s1.heap.objs.size) { s1 with gens := s1.gens.push (.fresh (.func body (envOfC qual scope s.heap.objs.size f cdv))), toks := tk2, heap := s1.heap.push go } := by
    intro go nm qn tk2 hgc hgd0 hgs hgp
    have hpushed : (s1.heap.push go).get? s1.heap.objs.size = some go := hgp _
    have szP : (s1.heap.push go).objs.size = s1.heap.objs.size + 1 := Heap.size_push ..
    refine ⟨s1.heap.objs.size, s1.gens.size, _, rfl, sz1, ?_, ⟨go, nm, qn, hpushed, hgc, hgd0, hgs⟩, Array.getElem?_push_size .., Nat.le_of_eq (by rw [gen1]), os1, ?_, lim1.keeps fun b o e => Heap.get?_push_of_some _ e, fun b o e => Heap.get?_push_of_some _ (kp1 b o e), ?_⟩
    · show _ < (s1.heap.push _).objs.size
      rw [Heap.size_push]; exact Nat.lt_succ_self _
    · exact AllBare.push (by rw [gen1]; exact e0.bare) rfl
    intro Aw Sx anc s2 hrw hfr B
    have e0w : Env0 P w K mg base Aw outer s H := ⟨hfr, e0.mod, e0.bs, e0.bsz, e0.funs, e0.frf, e0.hok, e0.bare⟩
    obtain ⟨t, ht, hq⟩ := hbody cdv Aw outer s H vs ys Q (Sx :: anc.map (·.1)) (hrw.inner _) hsp
    have I0 : Inv (gcxOf P w K mg base N qual scope f cdv Aw outer s H (fun _ _ _ => False) []) [] (start N vs) H s1 := inv_startG S hrw.room.hd e0w hl r x
    have old : ∀ b, (b < s.heap.objs.size ∨ (s1.heap.push go).objs.size ≤ b) → b ≠ s.heap.objs.size ∧ ∀ y c, (cellsFrom (s.heap.objs.size + 1) scope.names []).lookup y = some c → c ≠ b := fun b hb => by
      refine ⟨by
        intro z
        have z' : @Eq Nat b s.heap.objs.size := z
        rcases hb with hb | hb
        · have hb' : @LT.lt Nat _ b s.heap.objs.size := hb
          omega
        · have hb' : @LE.le Nat _ (s1.heap.push go).objs.size b := hb
          omega, fun y c e z => ?_⟩
      obtain ⟨v, ob, ho, _⟩ := I0.cell y c e
      have h1 : @LT.lt Nat _ c s1.heap.objs.size := Heap.lt_size ho
      have h2 : s.heap.objs.size < c := x.above y c (PySem.mem_of_lookup e)
      have z' : @Eq Nat c b := z
      rcases hb with hb | hb
      · have hb' : @LT.lt Nat _ b s.heap.objs.size := hb
        omega
      · have hb' : @LE.le Nat _ (s1.heap.push go).objs.size b := hb
        omega
    have I1 : Inv (gxOf P w K mg base N qual scope f cdv Aw outer s H (Sx :: anc.map (·.1))) [] (start N vs) H s1 := inv_gx I0 (fun b hb => old b (B.sp b hb).2.2.2) (fun b o e hb => by rw [(B.sp b hb).2.2.1] at e; cases e) fun b hb => (B.sp b hb).2.1
    have hsx : ∀ b ∈ Sx :: anc.map (·.1), b ≠ s1.heap.objs.size := fun b hb e => by
      have e' : @Eq Nat b s1.heap.objs.size := e
      rcases (B.sp b hb).2.2.2 with z | z
      · have z' : @LT.lt Nat _ b s.heap.objs.size := z
        omega
      · have z' : @LE.le Nat _ (s1.heap.push go).objs.size b := z
        omega
    have kp2 : ∀ b o, b ∉ Sx :: anc.map (·.1) → s1.heap.get? b = some o → s2.heap.get? b = some o := fun b o hb e => B.keep b o hb (Heap.get?_push_of_some _ e)
    have nt : ∀ b u, H b = some u → b ∉ Sx :: anc.map (·.1) := fun b u q hb => by rw [(B.sp b hb).1] at q; cases q
    have I2 : Inv (gxOf P w K mg base N qual scope f cdv Aw outer s H (Sx :: anc.map (·.1))) [] (start N vs) H s2 := by
      refine I1.call' (ch := Sx :: anc.map (fun q : Addr × Nat => q.1)) (B.os.trans os1.symm) ⟨fun b o q _ _ hx => kp2 b o hx q, fun b o q _ _ hx => ⟨o.slots, kp2 b o hx q⟩, fun b o _ n _ => n, fun b o q hx => ⟨o, kp2 b o hx q⟩, fun _ _ q => q, fun _ _ _ q => q, fun b ps q => ⟨#[], by rw [q]; simp⟩⟩
        (fun b u q => (I1.hok b u q).stay (fun d v hd e => kp2 d v (by
          rcases hd with y | y
          · rw [y]; exact nt b u q
          · exact nt d _ y) e) (fun _ y => y) fun _ _ y => y) B.bare fun b hb => ⟨.inl hb, (old b (B.sp b hb).2.2.2).1, (old b (B.sp b hb).2.2.2).2, fun p hp => absurd (show p ∈ ([] : List (Addr × Obj)) from hp) (by simp)⟩
    have hea : s2.heap.get? s1.heap.objs.size = some go := B.keep _ _ (fun hm => hsx _ hm rfl) hpushed
    have hgo : GenO s1.gens.size go := ⟨nm, qn, hgc, hgd0, .inl hgs⟩
    have hna : H s1.heap.objs.size = none := I0.hok.fresh (Nat.le_refl _)
    have hnf : s1.heap.objs.size ∉ frs outer := I0.nofs (Nat.le_refl _)
    have hla : s1.heap.objs.size ≠ s.heap.objs.size := Nat.ne_of_gt lt1
    have hca : ∀ y c, (cellsFrom (s.heap.objs.size + 1) scope.names []).lookup y = some c → c ≠ s1.heap.objs.size := fun y c e z => by
      obtain ⟨v, ob, ho, _⟩ := I0.cell y c e
      have h1 : @LT.lt Nat _ c s1.heap.objs.size := Heap.lt_size ho
      have z' : @Eq Nat c s1.heap.objs.size := z
      omega
    obtain ⟨acc, cc, eS, rS⟩ := B.own
    obtain ⟨pl, gp, hp⟩ := GPins.make (as := anc) (P := fun q => s2.heap.get? q.1 = some q.2 ∧ q.1 ∈ Sx :: anc.map (·.1) ∧ ∀ v, q.2.data ≠ .cell v) fun q hq => by
      obtain ⟨o, h1, h2⟩ := B.gen q hq
      exact ⟨o, h2, h1, List.mem_cons_of_mem _ (List.mem_map_of_mem (f := (·.1)) hq), h2.noCell⟩
    have hG : GIP (gxOf P w K mg base N qual scope f cdv Aw outer s H (Sx :: anc.map (·.1))) ⟨Sx, s1.gens.size, (s1.heap.objs.size, s1.gens.size) :: anc⟩ [] ys (start N vs) H s2 := by
      refine ⟨acc, cc, (s1.heap.objs.size, go) :: pl, rS, .cons hgo gp, I2.pins_of fun q hq => ?_⟩
      have spc : ∀ b ∈ Sx :: anc.map (·.1), H b = none ∧ b ≠ s.heap.objs.size ∧ b ∉ frs outer := fun b hb => ⟨(B.sp b hb).1, (old b (B.sp b hb).2.2.2).1, (B.sp b hb).2.1⟩
      rcases List.mem_cons.mp hq with rfl | hq
      · obtain ⟨y1, y2, y3⟩ := spc Sx List.mem_cons_self
        exact ⟨eS, y1, y2, y3, fun v z => by cases z⟩
      · rw [List.append_nil] at hq
        rcases List.mem_cons.mp hq with rfl | hq
        · exact ⟨hea, hna, hla, hnf, hgo.noCell⟩
        · obtain ⟨z1, z2, z3⟩ := hp q hq
          obtain ⟨y1, y2, y3⟩ := spc q.1 z2
          exact ⟨z1, y1, y2, y3, z3⟩
    have sits : Sits (gxOf P w K mg base N qual scope f cdv Aw outer s H (Sx :: anc.map (·.1))) ⟨Sx, s1.gens.size, (s1.heap.objs.size, s1.gens.size) :: anc⟩ := by
      have each : ∀ b ∈ (⟨Sx, s1.gens.size, (s1.heap.objs.size, s1.gens.size) :: anc⟩ : Seat).sp, b = s1.heap.objs.size ∨ b ∈ Sx :: anc.map (·.1) := fun b hb => by
        rcases List.mem_cons.mp hb with h | h
        · exact .inr (h ▸ List.mem_cons_self)
        · rcases List.mem_cons.mp h with h | h
          · exact .inl h
          · exact .inr (List.mem_cons_of_mem _ h)
      refine ⟨rfl, fun b hb => ?_, fun hm => ?_, fun y c e hm => ?_, fun _ _ z => z⟩
      · rcases each b hb with h | h
        · exact .inr (h ▸ sz1)
        · exact .inl h
      · rcases each _ hm with h | h
        · exact hla h.symm
        · exact (old _ (B.sp _ h).2.2.2).1 rfl
      · rcases each _ hm with h | h
        · exact hca y c e h
        · exact (old _ (B.sp _ h).2.2.2).2 y c e rfl
    refine ⟨gxOf P w K mg base N qual scope f cdv Aw outer s H (Sx :: anc.map (·.1)), rfl, rfl, rfl, rfl, rfl, rfl, ?_⟩
    refine flow_func ?_
    refine ht.run Aw ⟨Sx, s1.gens.size, (s1.heap.objs.size, s1.gens.size) :: anc⟩ [] _ (sizeLine - ys.length) ys _ [] _ _ id id s2 (start N vs) H { nx := fun ys' _ H' => Q ys' H', rt := fun ys' v H' => v = .non ∧ Q ys' H' } ⟨sits, fun q hq => (nomatch hq), over_func, rfl, rfl, rfl⟩ (by have := B.few; omega) ⟨fun n ys' s' fl hn hz hs => ?_⟩ hG B.size hq
    cases fl with
    | next =>
      obtain ⟨σ', H', hI, hQ⟩ := hs
      exact flow_end (.ok (.ret .none)) ⟨hz, ys', .non, [], σ', H', hn, hI, fun q hq => (nomatch hq), rfl, rfl, hQ⟩
    | brk => obtain ⟨_, _, _, q⟩ := hs; exact False.elim q
    | cont => obtain ⟨_, _, _, q⟩ := hs; exact False.elim q
    | ret u =>
      obtain ⟨v, σ', H', hI, rv, ev, hQ⟩ := hs
      exact flow_end (.ok (.ret u)) ⟨hz, ys', v, [], σ', H', hn, hI, fun q hq => (nomatch hq), rv, ev, hQ⟩
  exact main _ _ _ _ rfl rfl rfl fun h => Heap.get?_push_size _ rfl
end RP


set_option maxHeartbeats 1000000
/-! EvRK: a call of a generator def; yield from over it. -/
namespace RP
open PySem PySem.Spec PyProof.Rows L2 GenW EV

/-- an expression that makes a generator -/
abbrev TGenP := L2.St → Hp → List V → (List V → Hp → Prop) → Prop
structure PGenP (X : Cx) (k : Nat) (e : Expr) (tg : TGenP) : Prop where
  run : ∀ (pins : List (Addr × Obj)) (s : Shared) (σ : L2.St) (H : Hp) (ys : List V) (Q : List V → Hp → Prop), Inv X pins σ H s → tg σ H ys Q → wpAny (model X.prog X.w) X.A (eval e X.env)
    (fun u s' => ∃ H1 sc, Inv X pins σ H1 sc ∧ s.gens.size ≤ sc.gens.size ∧ GMadeP X.prog X.w X.base k X.stack H1 sc ys Q u s') X.xe s
def tCallP (sp : SpP) (dvs : List V) (t : TA) : TGenP := fun σ H ys Q => t σ H fun vs H1 => sp (vs ++ dvs) H1 ys Q
section
variable {X : Cx} {k : Nat} {f : Addr} {fd : FuncData} {ps : List Str} {sp : SpP} {dvs : List V} {ds : List Value} {x : Str} {p q pos pos' yp : Pos} {e : Expr} {es : List Expr} {t : TA}
/-- f(e, ..), f a generator def -/
theorem pgen_callP (F : GFnP X.prog X.w X.K X.mg X.base k f fd ps sp) (hr : RoomG k X.A) (hg : Gl X x) (hm : X.mg x = some (.ref f)) (hk : PySem.W.keepIn X.K (.ref f) = true) (hb : Binds X.K fd ps ds) (hd : Vals dvs ds) (ha : PA X (e :: es) t) (hdb : (x == ("__debug__" : Str)) = false)
    (hs : noStars (e :: es) = true) : PGenP X k (.Call (.Name x q) (e :: es) [] pos') (tCallP sp dvs t) := by
  have hs' : notStar e = true ∧ noStars es = true := by unfold noStars at hs; rwa [Bool.and_eq_true] at hs
  refine ⟨fun pins s σ H ys Q I h => ?_⟩
  refine wpAny_Call_Name_kw (ld_glob I hg hm ?_ hdb)
  refine PySem.W.callWith_K (h₀ := X.base) I.ok.mod.kin hk (wpAny_gsz (Nat.le_refl s.gens.size) (wpAny_mono (ha.run pos' pins s σ H _ I h) (fun us s1 ⟨vs, H1, I1, r, q⟩ hz => ⟨I1.kIn, ?_⟩) fun _ _ z _ => z)) (starEach_at hs'.1) (plain_of hs'.2)
  have r2 : Vals (vs ++ dvs) (us ++ ds) := r.append hd
  have hl2 : (us ++ ds).length = ps.length := by rw [← r2.length]; exact F.len _ _ _ _ q
  refine wpAny_call (codeAny_mono (F.run X.A X.stack s1 H1 ⟨us, []⟩ (us ++ ds) (vs ++ dvs) ys Q hr I1.env0 (hb s1 us I1.kIn hl2) r2 q) fun r s' hq => ?_)
  cases r with
  | error e => exact False.elim hq
  | ok fl =>
    cases fl with
    | ret u => exact ⟨H1, s1, I1, hz, hq⟩
    | next => exact False.elim hq
    | brk => exact False.elim hq
    | cont => exact False.elim hq
end
theorem over_plain {A : Around} {c : Code} {id : String} {args : Args} {fs : List Frame} {k : Result → Sem PySem.Fin} {g : Bool} {l kp : List Value} {p : Pos} (h : plainId id = true) : A.over (.builtin id args) (.ret k none g l c p kp :: fs) = (A.over c fs).in1 := by
  have hw := plainId_weight h args
  have hu := plainId_units h args
  have e2 : A.depth + frameCount ((Frame.ret k none g l c p kp :: fs).map Frame.where_) + (Code.builtin id args).weight = A.depth + frameCount (fs.map Frame.where_) + c.weight := by
    show A.depth + frameCount ((c, p) :: fs.map Frame.where_) + _ = _
    rw [frameCount_cons, hw]; omega
  have e3 : pushEnvs (Code.builtin id args).envs (pushEnvs (envsOf ((Frame.ret k none g l c p kp :: fs).map Frame.where_)) A.frames) = pushEnvs c.envs (pushEnvs (envsOf (fs.map Frame.where_)) A.frames) := by
    show pushEnvs _ (pushEnvs (envsOf ((c, p) :: fs.map Frame.where_)) A.frames) = _
    rw [Code.envs_of_weight hw, envsOf_cons]
    simp only [pushEnvs_eq]
    cases A.frames <;> simp [List.append_assoc]
  have e4 : pushGuards (Code.builtin id args).guards (pushGuards (guardsOf ((Frame.ret k none g l c p kp :: fs).map Frame.where_)) A.guards) = pushGuards c.guards (pushGuards (guardsOf (fs.map Frame.where_)) A.guards) := by
    show pushGuards _ (pushGuards (guardsOf ((c, p) :: fs.map Frame.where_)) A.guards) = _
    rw [Code.guards_of_weight hw, guardsOf_cons]
    simp only [pushGuards_eq]
    cases A.guards <;> simp [List.append_assoc]
  have e5 : A.units + unitsOf ((Frame.ret k none g l c p kp :: fs).map Frame.where_) + (Code.builtin id args).cUnits = A.units + unitsOf (fs.map Frame.where_) + c.cUnits + 1 := by
    show A.units + unitsOf ((c, p) :: fs.map Frame.where_) + _ = _
    rw [unitsOf_cons, hu]; omega
  have e1 : (marksOver (Frame.ret k none g l c p kp :: fs) (A.handled, A.handled)).1 = (marksOver fs (A.handled, A.handled)).1 := rfl
  show (⟨(marksOver (Frame.ret k none g l c p kp :: fs) (A.handled, A.handled)).1, A.depth + frameCount ((Frame.ret k none g l c p kp :: fs).map Frame.where_) + (Code.builtin id args).weight,
    pushEnvs (Code.builtin id args).envs (pushEnvs (envsOf ((Frame.ret k none g l c p kp :: fs).map Frame.where_)) A.frames), pushGuards (Code.builtin id args).guards (pushGuards (guardsOf ((Frame.ret k none g l c p kp :: fs).map Frame.where_)) A.guards),
    A.units + unitsOf ((Frame.ret k none g l c p kp :: fs).map Frame.where_) + (Code.builtin id args).cUnits⟩ : Around) = _
  rw [e1, e2, e3, e4, e5]
  rfl
def tGFromP (tg : TGenP) : TGn := fun D ys σ H => tg σ H ys fun ys' H1 => D.nx ys' σ H1
section
variable {X : Cx} {k : Nat} {e : Expr} {tg : TGenP} {yp pos : Pos}
theorem gps_from (h : PGenP X k e tg) (hr : RoomG (k + 1) X.A) (hi : interactive X.env = false) : GPS X (.Expr (.YieldFrom e yp) pos) (tGFromP tg) := by
  refine ⟨fun A p ip Q n ys c fs K J gd lv s σ H D g hn kk hI hsz ht => ?_⟩
  rw [exec_Expr X.env _ pos hi rfl]
  show Run X p A Q n c (.at pos fun _ => ((eval e X.env >>= fun v => (standAt yp >>= fun _ => yieldFrom X.env v)) >>= fun x => dropValue (.YieldFrom e yp) pos x).wrap K J gd lv) fs s
  refine flow_at ?_
  obtain ⟨acc, cc, pl, r, gp, I⟩ := hI
  rw [Sem.bind_eq_wrap', Sem.bind_eq_wrap', Sem.wrap_wrap, Sem.wrap_wrap]
  refine flow_wrap ?_
  rw [g.over]
  refine any_of (wpAny_mono (h.run _ s σ H ys _ I ht) (fun v s1 hv => ?_) fun x s' hx => (g.sits.no x s' hx).elim)
  obtain ⟨H1, sc, Isc, hszc, a2, g2, c2, rfl, ha1, ha2, hgen, hgs, hgle, hos, hba, hlim, hkp, wake⟩ := hv
  have G0 : GIP X p ip ys σ H1 sc := ⟨acc, cc, pl, r, gp, Isc⟩
  refine flow_at ?_
  show Run X p A Q n c ((yieldFrom X.env (.ref a2)).wrap (fun b => (dropValue (.YieldFrom e yp) pos b).wrap K J gd lv) J gd lv) fs s1
  unfold yieldFrom
  refine flow_bindw (any_of (wpAny_typeOf hgen.typeIs ?_))
  rw [if_neg (by decide)]
  refine flow_bindw (holdingP (any_of (wpAny_pyIter_gen hgen ?_)))
  refine flow_call fun q => ?_
  have hover : ∀ {kf : Result → Sem PySem.Fin}, A.over (yfC a2) (.ret kf none (gd false) (lv []) c q [] :: fs) = X.A.in1 := fun {kf} => (over_plain plain_yf).trans (congrArg Around.in1 g.over)
  obtain ⟨⟨acc0, c0, eS, rS⟩, hg0, Ip⟩ := G0.facts
  have kp' : ∀ b o, sc.heap.get? b = some o → s1.heap.get? b = some o := hkp
  have spSc : ∀ b ∈ p.sp, ∃ o, sc.heap.get? b = some o := fun b hb => by
    rcases List.mem_cons.mp hb with rfl | hb
    · exact ⟨_, eS⟩
    · obtain ⟨q, hq, rfl⟩ := List.mem_map.mp hb
      obtain ⟨o, h1, _⟩ := hg0 q hq
      exact ⟨o, h1⟩
  have spLt : ∀ b ∈ p.sp, @LT.lt Nat _ b sc.heap.objs.size := fun b hb => let ⟨o, h1⟩ := spSc b hb; Heap.lt_size h1
  have ha2sp : a2 ∉ p.sp := fun hm => by
    have h1 := spLt a2 hm
    have h2 : @LE.le Nat _ sc.heap.objs.size a2 := ha1
    omega
  have hcst : a2 ≠ cStatics := fun e => by
    obtain ⟨mc, hns, _⟩ := Isc.nolimit
    have h1 : @LT.lt Nat _ cStatics sc.heap.objs.size := hns.lt
    have h2 : @LE.le Nat _ sc.heap.objs.size a2 := ha1
    have h3 : @Eq Nat a2 cStatics := e
    omega
  have hgg : p.g < g2 := Nat.lt_of_lt_of_le hsz (Nat.le_trans hszc hgle)
  have spH : ∀ b ∈ p.sp, H1 b = none ∧ b ∉ frs X.stack ∧ X.base.get? b = none := fun b hb => by
    obtain ⟨z1, z2⟩ := G0.sp b hb
    refine ⟨z1, fun hm => ?_, ?_⟩
    · rcases List.mem_cons.mp (Isc.stkSub b hm) with z | z
      · exact g.sits.loc (z ▸ hb)
      · exact z2 z
    · cases e : X.base.get? b with
      | none => rfl
      | some o =>
        rcases g.sits.ex b hb with z | z
        · exact (Isc.ok.noex b o e z).elim
        · have h1 : @LT.lt Nat _ b X.base.objs.size := Heap.lt_size e
          have h2 : @LE.le Nat _ X.base.objs.size X.s_0.heap.objs.size := Isc.ok.bsz
          have h3 : @LE.le Nat _ X.s_0.heap.objs.size b := z
          omega
  have few : ys.length ≤ sizeLine := by omega
  have hn' : sizeLine - ys.length = n := by omega
  have hgsz : g2 < s1.gens.size := (Array.getElem?_eq_some_iff.mp hgs).1
  obtain ⟨X2, e1, e2, e3, e4, e5, e6, flow⟩ := wake X.A.in1.in1 p.S p.as (s1.setGen g2 .running) ⟨⟨hr.room.hd, by have := hr.room.dp; show X.A.depth + 3 * k + 5 < _; omega, by have := hr.room.un; show X.A.units + 1 + 1 + 16 * k + 200 < _; omega⟩, hr.quiet⟩ Isc.ok.frames
    ⟨fun b hb => ⟨(spH b hb).1, (spH b hb).2.1, (spH b hb).2.2, .inl (spLt b hb)⟩, ⟨acc0, c0, kp' _ _ eS, rS⟩, fun q hq => let ⟨o, h1, h2⟩ := hg0 q hq; ⟨o, kp' _ _ h1, h2⟩, fun b o _ z => z, hos, allBare_setGen hba rfl, by
      have := setGen_size s1 g2 .running
      omega, few⟩
  rw [hn'] at flow
  have hexP : X2.ex = p.sp := e6
  obtain ⟨og, nm, qn, hog, hgc, hgd, hgsl⟩ := hgen
  refine flow_yf (X := X) (X2 := X2) (p := p) (Q := Q) (Q2 := fun ys' v H' => v = .non ∧ D.nx ys' σ H') (a2 := a2) (g2 := g2) (by rw [hover]; exact hr.room.hd) (by
      rw [hover]
      have := hr.room.dp
      show X.A.depth < _
      omega) (by
      show (splitAtGen fs).map _ = none
      rw [g.split]; rfl) (by
      show (gd false || fs.any Frame.guarded) = false
      rw [g.gd, g.guard]; rfl) hgg ha2sp hcst (fun _ _ _ z => z.1) (fun m s₁ h' hR hk => ?_) n s1 (.fresh c2) og hog ⟨nm, qn, hgc, hgd, .inl hgsl⟩ hlim hgs (by rw [hover]; exact flow)
  obtain ⟨hz3, ys', v, ip2, σ2, H2, hn2, hI2, hip2, rv, hv, hQ⟩ := hR
  obtain ⟨⟨acc3, c3, eS3, r3⟩, hg3, I3⟩ := hI2.facts
  have un : Un (frs X.stack) p.sp H1 H2 sc.heap s₁.heap := by
    have := I3.base
    rw [e3, e4, e5, hexP] at this
    exact this
  have os3 : s₁.os = sc.os := by
    have := I3.os
    rw [e3] at this
    exact this
  have hok3 : HOk X.prog X.w H2 s₁.heap := by
    have := I3.hok
    rw [e1, e2] at this
    exact this
  have sp2 : ∀ b ∈ p.sp, H2 b = none := fun b hb => (hI2.sp b (by
    rcases List.mem_cons.mp hb with h | h
    · exact h ▸ List.mem_cons_self
    · exact List.mem_cons_of_mem _ (List.mem_cons_of_mem _ h))).1
  have G3 : GIP X p ip ys' σ H2 { s₁.setGen g2 .finished with heap := h' } :=
    G0.anew g.sits g.ip os3 (un.trans (Un.kept hk)) (hok3.kept hk) (allBare_setGen I3.bare rfl) sp2 (hk _ _ eS3) r3 fun q hq => let ⟨o, h1, h2⟩ := hg3 q (List.mem_cons_of_mem _ hq); ⟨o, hk _ _ h1, h2⟩
  refine flow_leaf (.ok (.ret .none)) (kk.ok m ys' _ .next hn2 ?_ ⟨σ, H2, G3, hQ⟩)
  have h1 := setGen_size s₁ g2 .finished
  have h2 : g2 < s₁.gens.size := hz3
  show p.g < (s₁.setGen g2 .finished).gens.size
  omega
end
end RP


set_option maxHeartbeats 1000000
/-! EvRL: list(g) over Runs+. -/
namespace RP
open PySem PySem.Spec PyProof.Rows L2 GenW EV

theorem code_builtinP {prog : Program} {w : World} {A : Around} {s : Shared} {id : String} {args : Args} {b : Builtin} {R : Result → Shared → Prop} (hb : entryFor table id = some b)
    (h : wpAnyP (model prog w) (A.under (.builtin id args)) (b args) (fun fin s' => match fin with | .done f => R (.ok f) s' | .again c' => c'.quiet = true ∧ codeAnyP (model prog w) A c' R s') (fun e s' => R (.error e) s') s) : codeAnyP (model prog w) A (.builtin id args) R s := by
  refine code_tree ?_
  show wpAnyP _ _ (match entryFor table id with | some b => b args | none => unsupported ((withoutEnding? id "#data").getD id)) _ _ s
  rw [hb]; exact h
theorem call_typeP {prog : Program} {w : World} {A : Around} {s : Shared} {T newId initId : String} {Bi : Builtin} {args : List Value} {Q Q₁ : Value → Shared → Prop} {E : Value → Shared → Prop} (ft : TypeCalled T newId initId)
    (hct : checkTypeCall T ⟨args, []⟩ = pure ()) (entryI : entryFor table initId = some Bi) (hnew : wpAny (model prog w) A.in1 (call (.builtin newId) (.type T :: args)) Q₁ E s)
    (hnext : ∀ obj s₁, Q₁ obj s₁ → s₁.TypeIs obj T ∧ argsOk initId ⟨obj :: args, []⟩ ∧
      wpAnyP (model prog w) A.in1.in1 (Bi ⟨obj :: args, []⟩) (fun fin s' => match fin with | .done f => (match f with | .ret r => r = .none ∧ Q obj s' | _ => False) | .again c' => c'.quiet = true ∧ codeAnyP (model prog w) A.in1 c' (fun r s' => match r with | .ok (.ret r) => r = .none ∧ Q obj s' | .ok _ => False | .error e => E e s') s')
        E s₁) :
    wpAnyP (model prog w) A (call (.type T) args) Q E s := by
  obtain ⟨c, tl, hmro⟩ := ft.mro
  have hmade := ft.made
  have hsub := ft.sub
  refine callP (code_tree ?_)
  show wpAnyP _ _ (callAny (.type T) _) _ _ _
  refine pureP ⟨Code.quiet_builtin _ (by decide +kernel), code_builtinP F.entry_type_call ?_⟩
  rw [Around.under_plain (weight_type_call_type T args []) rfl]
  have h1 := ft.notType
  have h2 := ft.canCreate
  unfold Builtin.«type.__call__»
  simp only [h1, h2, Bool.false_eq_true, if_false]
  refine bindP (any_of (wpAny_of_eq hct ?_))
  refine bindP (any_of (wpAny_of_eq hmro ?_))
  rw [if_neg (by simp)]
  refine bindP (any_of (wpAny_of_eq hmade ?_))
  dsimp only
  refine bindP (pureP ?_)
  refine bindP (holdingP (any_of (wpAny_mono hnew (fun obj s1 hq => ?_) fun _ _ z => z)))
  obtain ⟨hT, hok, hsi⟩ := hnext obj s1 hq
  refine bindP (any_of (wpAny_isInstance hT hsub ?_))
  rw [if_neg (by decide)]
  refine bindP (holdingP (specialP hT ft.init (callP (call_builtinP ft.init.plain entryI (any_of (ft.init.check _ _ _ _ _ _ _ _ hT hok ?_))))))
  refine monoP hsi (fun fin s' hf => ?_) fun _ _ z => z
  have last : ∀ {r : Value} {s' : Shared} {m : Sem PySem.Fin}, r = .none ∧ Q obj s' → wpAnyP (model prog w) A.in1 (if (r != Value.none) = true then m else ret obj) (fun fin s' => match fin with | .done f => (match (Except.ok f : Result) with | .ok (.ret v) => Q v s' | .ok _ => False | .error e => E e s') | .again c' => c'.quiet = true ∧ codeAnyP (model prog w) A c' (fun r s' => match r with | .ok (.ret v) => Q v s' | .ok _ => False | .error e => E e s') s') (fun e s' => E e s') s' := fun {r s' m} h => by
    obtain ⟨rfl, h⟩ := h
    rw [if_neg (by decide)]
    exact pureP h
  cases fin with
  | done f =>
    cases f with
    | ret r => exact last hf
    | _ => exact hf.elim
  | again c' =>
    refine ⟨hf.1, code_mono hf.2 fun r s'' hr => ?_⟩
    rcases r with e | f
    · exact hr
    · cases f with
      | ret r => exact last hr
      | _ => exact hr.elim
/-- the next item for a loop of the machine's own -/
theorem pyNextP {prog : Program} {w : World} {A : Around} {s : Shared} {E : Value → Shared → Prop} {a : Addr} {g n : Nat} {o : Obj} {gs : GenState} {T : Turns} {Q : Option Value → Shared → Prop} (hh : A.handled = none) (hl : s.heap.NoLimit) (hroom : A.depth < recursionLimit) (ho : s.heap.get? a = some o) (hg : GenO g o) (hgs : s.gens[g]? = some gs)
    (hgo : GoesP (model prog w) A.in1 T n gs (s.setGen g .running)) (hY : ∀ m v s₁ gs', n = m + 1 → T.Y m v s₁ → (∀ s'', T.L v s₁ s'' → GoesP (model prog w) A.in1 T m gs' s'') → Q (some v) (s₁.setGen g gs'))
    (hR : ∀ r s₁, T.R n r s₁ → r = .ok (.ret .none) ∧ ∀ h', (∀ b o, s₁.heap.get? b = some o → h'.get? b = some o) → Q none { s₁.setGen g .finished with heap := h' }) : wpAnyP (model prog w) A (pyNext (.ref a)) Q E s := by
  unfold pyNext
  refine bindP (attemptP (nextGP hh hl hroom ho hg hgs hgo (fun m v s₁ gs' hn hy hk => ?_) fun r s₁ hr => ?_))
  · exact pureP (hY m v s₁ gs' hn hy hk)
  · obtain ⟨rfl, hE⟩ := hR r s₁ hr
    refine ⟨rfl, fun e h' hS hk => ?_⟩
    obtain ⟨ae, oe, vs, rfl, e1, e2, _, _⟩ := hS
    refine bindP (any_of (wpAny_isInstance (s := { s₁.setGen g .finished with heap := h' }) (T := "StopIteration") (b := true) ⟨oe, e1, e2⟩ isSubtype_stop ?_))
    exact pureP (hE h' hk)
section
variable {A : Around} {P : Program} {w : World} {X : Cx} {S a : Addr} {g : Nat} {Q2 : List V → VK} {R : Result → Shared → Prop} {res : Value}
/-- a list takes all that a generator hands out -/
theorem drainP (hh : A.handled = none) (hd : A.depth < recursionLimit) (hSa : S ≠ a) (hQ2 : ∀ ys v H, Q2 ys v H → v = .non)
    (hend : ∀ n s₁ h', (turnsG X ⟨S, g, [(a, g)]⟩ Q2).R n (.ok (.ret .none)) s₁ → (∀ b o, s₁.heap.get? b = some o → h'.get? b = some o) → R (.ok (.ret res)) { s₁.setGen g .finished with heap := h' }) :
    ∀ (n : Nat) (s : Shared) (gs : GenState) (o : Obj), s.heap.get? a = some o → GenO g o → s.heap.NoLimit → s.gens[g]? = some gs → GoesP (model P w) A.in1.in1 (turnsG X ⟨S, g, [(a, g)]⟩ Q2) n gs (s.setGen g .running) →
      codeAnyP (model P w) A (.builtin "list.extend.loop" ⟨[.ref S, .ref a, res], []⟩) R s := by
  have core : ∀ n, (∀ m, n = m + 1 → ∀ (s : Shared) (gs : GenState) (o : Obj), s.heap.get? a = some o → GenO g o → s.heap.NoLimit → s.gens[g]? = some gs → GoesP (model P w) A.in1.in1 (turnsG X ⟨S, g, [(a, g)]⟩ Q2) m gs (s.setGen g .running) →
        codeAnyP (model P w) A (.builtin "list.extend.loop" ⟨[.ref S, .ref a, res], []⟩) R s) →
      ∀ (s : Shared) (gs : GenState) (o : Obj), s.heap.get? a = some o → GenO g o → s.heap.NoLimit → s.gens[g]? = some gs → GoesP (model P w) A.in1.in1 (turnsG X ⟨S, g, [(a, g)]⟩ Q2) n gs (s.setGen g .running) →
        codeAnyP (model P w) A (.builtin "list.extend.loop" ⟨[.ref S, .ref a, res], []⟩) R s := by
    intro n ih s gs o ho hg hl hgs hgo
    refine code_builtinP F.entry_extend_loop ?_
    rw [Around.under_plainId F.plain_extend_loop _]
    show wpAnyP _ A.in1 (pyNext (.ref a) >>= _) _ _ s
    refine bindP (pyNextP (A := A.in1) hh hl hd ho hg hgs hgo (fun m v s₁ gs' hn hy hk => ?_) fun r s₁ hr => ?_)
    · obtain ⟨z1, z2, ⟨acc, c, z3, z3n⟩, z4⟩ := (show Gives ⟨S, g, [(a, g)]⟩ m s₁ from hy)
      obtain ⟨o1, e1, q1⟩ := z4 (a, g) List.mem_cons_self
      have z1' : g < s₁.gens.size := z1
      have z3' : s₁.heap.get? S = some (lstObj acc c) := z3
      have hcS : cStatics ≠ S := fun e => (show Gives ⟨S, g, [(a, g)]⟩ m s₁ from hy).apart (e ▸ List.mem_cons_self)
      subst hn
      refine bindP (any_of (wpAny_updateSeq (s := s₁.setGen g gs') (f := (·.push v)) z3' rfl ?_ (by omega) (by
        show (acc.push v).size ≤ sizeLine + 1
        rw [Array.size_push]; omega)))
      have keep : ∀ b o, b ≠ S → s₁.heap.get? b = some o → (s₁.heap.update S (Obj.mapSeq (·.push v))).get? b = some o := fun b o hb e => (Heap.get?_update_other _ _ (Ne.symm hb)).trans e
      have hsz : g < (s₁.setGen g gs').gens.size := by rw [setGen_size]; exact z1'
      refine pureP ⟨plainId_quiet F.plain_extend_loop _, ih m rfl { s₁.setGen g gs' with heap := s₁.heap.update S (Obj.mapSeq (·.push v)) } gs' o1 (keep a o1 (Ne.symm hSa) e1) q1 ?_ (setGen_at z1') (hk _ ?_)⟩
      · obtain ⟨mc, hns, hnn⟩ := z2
        exact ⟨mc, hns.at' fun o e => keep _ o hcS e, hnn⟩
      · refine ⟨rfl, ?_, fun j x hx => ?_, fun j hj => ?_, fun b ob hb e => ?_, fun ac cc e => ?_, fun q hq o e qo => ?_⟩
        · have h1 := setGen_size s₁ g gs'
          have h2 := setGen_size { s₁.setGen g gs' with heap := s₁.heap.update S (Obj.mapSeq (·.push v)) } g .running
          have h3 : ({ s₁.setGen g gs' with heap := s₁.heap.update S (Obj.mapSeq (·.push v)) } : Shared).gens.size = (s₁.setGen g gs').gens.size := rfl
          omega
        · by_cases hj : j = g
          · subst hj
            have := setGen_at (s := { s₁.setGen j gs' with heap := s₁.heap.update S (Obj.mapSeq (·.push v)) }) (x := .running) hsz
            rw [this] at hx
            cases hx
            exact .inr rfl
          · rw [setGen_ne hj] at hx
            exact .inl ((setGen_ne hj).symm.trans hx)
        · have hj' : g < j := hj
          rw [setGen_ne (Nat.ne_of_gt hj')]
          exact setGen_ne (Nat.ne_of_gt hj')
        · exact keep b ob (fun e => hb (e ▸ List.mem_cons_self)) e
        · have e' : s₁.heap.get? S = some (lstObj ac cc) := e
          exact ⟨_, Heap.get?_update_self _ e' rfl⟩
        · have hq' : q = (a, g) := List.mem_singleton.mp hq
          subst hq'
          exact ⟨o, keep a o (Ne.symm hSa) e, qo⟩
    · have hr1 : r = .ok (.ret .none) := by
        cases r with
        | error e => exact False.elim hr
        | ok fl =>
          cases fl with
          | ret u =>
            obtain ⟨_, ys, v, ip, σ, H, _, _, _, rv, hq⟩ := hr
            rw [hQ2 _ _ _ hq] at rv
            have : u = .none := rv
            rw [this]
          | _ => exact False.elim hr
      subst hr1
      exact ⟨rfl, fun h' hk => pureP (hend n s₁ h' hr hk)⟩
  intro n
  induction n with
  | zero => exact core 0 fun m h => nomatch h
  | succ n ih => exact core (n + 1) fun m h => by cases h; exact ih
end
end RP


set_option maxHeartbeats 1000000
/-! EvRM: list(g) over Runs+. -/
namespace RP
open PySem PySem.Spec PyProof.Rows L2 GenW EV

/-- list's start, until it asks the generator -/
theorem list_starts {P : Program} {w : World} {A : Around} {s : Shared} {E : Value → Shared → Prop} {a : Addr} {g : Nat} (hg : s.heap.IsGen a g) :
    ∃ Bi, entryFor table "list.__init__" = some Bi ∧ wpAny (model P w) A (Bi ⟨[.ref s.heap.objs.size, .ref a], []⟩)
      (fun fin s' => fin = .again (.builtin "list.extend.loop" ⟨[.ref s.heap.objs.size, .ref a, .none], []⟩) ∧ s'.gens = s.gens ∧ s'.os = s.os ∧ (∀ b o, s.heap.get? b = some o → s'.heap.get? b = some o) ∧ ∃ c, s'.heap.get? s.heap.objs.size = some (lstObj #[] c))
      E { s with heap := s.heap.push { cls := .type "list", data := .seq #[] } } := by
  refine ⟨_, F.entry_list_init, ?_⟩
  have hS : (s.heap.push { cls := .type "list", data := .seq #[] }).get? s.heap.objs.size = some { cls := .type "list", data := .seq #[] } := Heap.get?_push_size _ rfl
  have hSa : s.heap.objs.size ≠ a := let ⟨o, _, _, ho, _⟩ := hg; Nat.ne_of_gt (Heap.lt_size ho)
  show wpAny _ A (do let old ← Builtin.List.listItems (.ref s.heap.objs.size); Builtin.List.listUpdate (.ref s.heap.objs.size) (fun _ => #[]); letGo old.toList.reverse; Builtin.List.listExtendWith (.ref s.heap.objs.size) (.ref a) .none) _ _ _
  refine wpAny_bind ?_
  unfold Builtin.List.listItems
  refine wpAny_bind (wpAny_seqItems hS rfl (wpAny_pure ?_))
  show wpAny _ A (updateSeq s.heap.objs.size (fun _ => #[]) >>= fun _ => letGo (#[] : Array Value).toList.reverse >>= fun _ => Builtin.List.listExtendWith (.ref s.heap.objs.size) (.ref a) .none) _ _ _
  refine wpAny_bind (wpAny_updateSeq hS rfl ?_)
  have hS2 := Heap.get?_update_self (Obj.mapSeq (fun _ => (#[] : Array Value))) hS rfl
  refine wpAny_bind (wpAny_letGo ?_)
  unfold Builtin.List.listExtendWith
  have up : ∀ (h : Heap) (f : Obj → Obj), (∀ b o, s.heap.get? b = some o → h.get? b = some o) → ∀ b o, s.heap.get? b = some o → (h.update s.heap.objs.size f).get? b = some o := fun h f q b o e =>
    (Heap.get?_update_other _ _ (Ne.symm (Nat.ne_of_lt (Heap.lt_size e)))).trans (q b o e)
  have k1 : ∀ b o, s.heap.get? b = some o → (s.heap.push { cls := .type "list", data := .seq #[] }).get? b = some o := fun b o e => Heap.get?_push_of_some _ e
  have k2 := up _ (Obj.mapSeq (fun _ => (#[] : Array Value))) k1
  have gty : ∀ {h : Heap}, (∀ b o, s.heap.get? b = some o → h.get? b = some o) → h.IsGen a g := fun {h} q => hg.keeps q
  refine wpAny_bind (wpAny_typeOf (Heap.IsGen.typeIs (s := { s with heap := _ }) (gty k2)) ?_)
  have h1 : Builtin.List.listSameRef (.ref s.heap.objs.size) (.ref a) = false := by simp [Builtin.List.listSameRef, hSa]
  have h2 : (Value.type "generator" == Value.type "list") = false := by decide
  have h3 : (Value.type "generator" == Value.type "tuple") = false := by decide
  simp only [h1, h2, h3, Bool.or_false, Bool.false_eq_true, if_false]
  refine wpAny_bind (wpAny_pyIter_gen (s := { s with heap := _ }) (gty k2) ?_)
  refine wpAny_bind (wpAny_holding ?_)
  unfold Builtin.List.listLengthHint
  refine wpAny_bind (wpAny_specialOf (Heap.IsGen.typeIs (s := { s with heap := _ }) (gty k2)) F.gen_no_len ?_)
  show wpAny _ A (specialOf (Value.ref a) (Str.ofString "__length_hint__") >>= _) _ _ _
  refine wpAny_bind (wpAny_specialOf (Heap.IsGen.typeIs (s := { s with heap := _ }) (gty k2)) F.gen_no_hint ?_)
  refine wpAny_pure ?_
  show wpAny _ A (rule "list.extend.makes-room" >>= fun _ => Builtin.List.listTouch (.ref s.heap.objs.size) >>= fun _ => again (.builtin "list.extend.loop" ⟨[.ref s.heap.objs.size, .ref a, .none], []⟩)) _ _ _
  refine wpAny_bind (wpAny_rule (wpAny_bind ?_))
  show wpAny _ A (updateSeq s.heap.objs.size (·.push .none) >>= fun _ => updateSeq s.heap.objs.size (·.pop)) _ _ _
  refine wpAny_bind (wpAny_updateSeq hS2 rfl ?_)
  have hS3 := Heap.get?_update_self (Obj.mapSeq (·.push Value.none)) hS2 rfl
  refine wpAny_updateSeq (hz := by seq_fits) hS3 rfl ?_
  exact wpAny_pure ⟨rfl, rfl, rfl, up _ (Obj.mapSeq (·.pop)) (up _ (Obj.mapSeq (·.push Value.none)) k2), _, Heap.get?_update_self (Obj.mapSeq (·.pop)) hS3 rfl⟩
/-- list(g), g a generator that has not begun -/
theorem call_listP {P : Program} {w : World} {base : Heap} {outer : List PySem.Env} {H : Hp} {sc s : Shared} {Q : List V → Hp → Prop} {A : Around} {k : Nat} {u : Value} {Q' : Value → Shared → Prop} {E : Value → Shared → Prop} (hr : RoomG (k + 2) A) (hfr : A.frames = some outer) (h : GMadeP P w base k outer H sc [] Q u s)
    (hH : ∀ b, sc.heap.objs.size ≤ b → H b = none ∧ b ∉ frs outer ∧ base.get? b = none)
    (hQ : ∀ s' acc c H' ys, s'.heap.get? s.heap.objs.size = some (lstObj acc c) → Vals ys acc.toList → ys.length ≤ sizeLine → s'.os = sc.os → AllBare s'.gens → Un (frs outer) [s.heap.objs.size] H H' sc.heap s'.heap → HOk P w H' s'.heap → H' s.heap.objs.size = none → Q ys H' → Q' (.ref s.heap.objs.size) s') :
    wpAnyP (model P w) A (call (.type "list") [u]) Q' E s := by
  obtain ⟨a, g, c, rfl, ha1, ha2, hg, hgs, hgle, hos, hb, hl, hkp, wake⟩ := h
  obtain ⟨Bi, hBi, st⟩ := list_starts (P := P) (w := w) (A := A.in1.in1) (E := E) hg
  refine call_typeP (Q₁ := fun obj s₁ => obj = .ref s.heap.objs.size ∧ s₁ = { s with heap := s.heap.push { cls := .type "list", data := .seq #[] } }) F.called_list (F.typeCall_list_1 _) hBi (wpAny_call (code_list_new _ ⟨rfl, rfl⟩)) fun obj s₁ h₁ => ?_
  obtain ⟨rfl, rfl⟩ := h₁
  have hS : (s.heap.push { cls := .type "list", data := .seq #[] }).get? s.heap.objs.size = some { cls := .type "list", data := .seq #[] } := Heap.get?_push_size _ rfl
  refine ⟨⟨_, hS, rfl⟩, F.args_list_init_2 _ _, any_of (wpAny_mono st (fun fin s' hf => ?_) fun _ _ z => z)⟩
  obtain ⟨rfl, hgens, hos', hkeep, c0, eS⟩ := hf
  have hSa : s.heap.objs.size ≠ a := Nat.ne_of_gt ha2
  have hsS : @LE.le Nat _ sc.heap.objs.size s.heap.objs.size := by
    have h1 : @LE.le Nat _ sc.heap.objs.size a := ha1
    have h2 : @LT.lt Nat _ a s.heap.objs.size := ha2
    omega
  obtain ⟨og, nm, qn, hog, hgc, hgd, hgsl⟩ := hg
  have hgs' : s'.gens[g]? = some (.fresh c) := by rw [hgens]; exact hgs
  have hgsz : g < s'.gens.size := (Array.getElem?_eq_some_iff.mp hgs').1
  obtain ⟨X, e1, e2, e3, e4, e5, e6, flow⟩ := wake A.in1.in1.in1 s.heap.objs.size [] (s'.setGen g .running) ⟨⟨hr.room.hd, by have := hr.room.dp; show A.depth + 3 * k + 5 < _; omega, by have := hr.room.un; show A.units + 1 + 1 + 1 + 16 * k + 200 < _; omega⟩, hr.quiet⟩ hfr
    ⟨fun b hb => by
      have hb' : b = s.heap.objs.size := by simpa using hb
      subst hb'
      obtain ⟨z1, z2, z3⟩ := hH s.heap.objs.size hsS
      exact ⟨z1, z2, z3, .inr (Nat.le_refl _)⟩, ⟨#[], c0, eS, .nil⟩, fun q hq => (nomatch hq), fun b o _ z => hkeep b o z, hos'.trans hos, allBare_setGen (by rw [hgens]; exact hb) rfl, by
      have := setGen_size s' g .running
      omega, Nat.zero_le _⟩
  refine ⟨plainId_quiet F.plain_extend_loop _, drainP (A := A.in1) (X := X) (Q2 := fun ys v H' => v = .non ∧ Q ys H') (g := g) hr.room.hd (by
      have := hr.room.dp
      show A.depth < _
      omega) hSa (fun _ _ _ z => z.1) (fun m s₁ h' hR hk => ?_) (sizeLine - ([] : List V).length) s' (.fresh c) og (hkeep _ _ hog) ⟨nm, qn, hgc, hgd, .inl hgsl⟩ (hl.keeps hkeep) hgs' flow⟩
  obtain ⟨hz3, ys', v, ip2, σ2, H2, hn2, hI2, hip2, rv, hv, hQ2⟩ := hR
  obtain ⟨⟨acc3, c3, eS3, r3⟩, hg3, I3⟩ := hI2.facts
  have un : Un (frs outer) [s.heap.objs.size] H H2 sc.heap s₁.heap := by
    have := I3.base
    rw [e3, e4, e5, e6] at this
    exact this
  have os3 : s₁.os = sc.os := by
    have := I3.os
    rw [e3] at this
    exact this
  have hok3 : HOk P w H2 s₁.heap := by
    have := I3.hok
    rw [e1, e2] at this
    exact this
  exact ⟨rfl, hQ _ acc3 c3 H2 ys' (hk _ _ eS3) r3 (by omega) os3 (allBare_setGen I3.bare rfl) (un.trans (Un.kept hk)) (hok3.kept hk) (hI2.sp _ List.mem_cons_self).1 hQ2⟩
def tListP (tg : TGenP) : TE := fun σ H Q => tg σ H [] fun ys H2 => ∀ p, H2 p = none → Q (.ref p) (upd H2 p (.lst ys))
section
variable {X : Cx} {k : Nat} {e : Expr} {tg : TGenP} {p pos : Pos} {nm : Str}
theorem pep_list (h : PGenP X k e tg) (hr : RoomG (k + 2) X.A) (hg : Gl X nm) (hmg : X.mg nm = none) (hv : bootBuiltins nm = some (.type "list")) (hnm : nm ≠ "__name__") (hdb : (nm == ("__debug__" : Str)) = false) (hs : noStars [e] = true) : PEP X (.Call (.Name nm p) [e] [] pos) (tListP tg) := by
  have he := starEach_at (env := X.env) (es := []) (show notStar e = true by unfold noStars at hs; simp at hs; exact hs.1)
  refine ⟨fun pins s σ H Q I hq => ?_⟩
  rw [arm_call]
  refine bindP (any_of (ld_blt I hg hmg hv ?_ hnm hdb))
  rw [he]
  refine withP (P := fun _ => True) rfl (fun h _ => ⟨.machine, .inr (.inl rfl), fun A' Q' E' s' _ q => wpAny_of_eq rfl q⟩) (evalArgsP ?_)
  show wpAnyP _ _ (spliced ((false, eval e X.env) :: backTo pos (starEach [] X.env))) _ _ s
  rw [spliced]
  refine bindP (any_of (wpAny_mono (h.run pins s σ H [] _ I hq) (fun u s1 ⟨H1, sc, Isc, hsz, hG⟩ => ?_) fun _ _ z => z))
  simp only [Bool.false_eq_true, if_false]
  refine bindP (pureP (bindP (holdingP (pureP (pureP ⟨trivial, ?_⟩)))))
  have hle : @LE.le Nat _ sc.heap.objs.size s1.heap.objs.size := by
    obtain ⟨a, g, c, _, h1, h2, _⟩ := id hG
    have h1' : @LE.le Nat _ sc.heap.objs.size a := h1
    have h2' : @LT.lt Nat _ a s1.heap.objs.size := h2
    omega
  refine call_listP hr Isc.ok.frames hG (fun b hb => ⟨Isc.hok.fresh hb, fun hm => ?_, ?_⟩) fun s' acc c H' ys q1 q2 hl q3 q4 q5 q6 q7 q8 => ?_
  · rcases List.mem_cons.mp (Isc.stkSub b hm) with z | z
    · exact Nat.ne_of_gt (Nat.lt_of_lt_of_le Isc.lt hb) z
    · exact Isc.nofs hb z
  · cases e : X.base.get? b with
    | none => rfl
    | some o =>
      have h1 : @LT.lt Nat _ b X.base.objs.size := Heap.lt_size e
      have h2 : @LE.le Nat _ X.base.objs.size X.s_0.heap.objs.size := Isc.ok.bsz
      have h3 : @LE.le Nat _ X.s_0.heap.objs.size sc.heap.objs.size := Isc.sz
      have h4 : @LE.le Nat _ sc.heap.objs.size b := hb
      omega
  · exact ⟨.ref s1.heap.objs.size, upd H' s1.heap.objs.size (.lst ys), Isc.drained hle hl q1 q2 (fun b hb => by
      have hb' : b = s1.heap.objs.size := by simpa using hb
      subst hb'
      refine ⟨.inr (Nat.le_trans Isc.sz hle), Nat.ne_of_gt (Nat.lt_of_lt_of_le Isc.lt hle), fun x c hx z => ?_, fun p hp z => ?_⟩
      · obtain ⟨v, o, ho, _⟩ := Isc.cell x c hx
        have h1 : @LT.lt Nat _ c sc.heap.objs.size := Heap.lt_size ho
        have h2 : @Eq Nat c s1.heap.objs.size := z
        omega
      · have h1 : @LT.lt Nat _ p.1 sc.heap.objs.size := Heap.lt_size (Isc.pin p hp).1
        have h2 : @Eq Nat p.1 s1.heap.objs.size := z
        omega) q3 q4 q5 q6 q7, rfl, q8 _ q7⟩
end
end RP


set_option maxHeartbeats 1000000
/-! EvRN: more rules over Runs+: return, stores, built-ins, comparisons. -/
namespace RP
open PySem PySem.Spec PyProof.Rows L2 GenW EV
section
variable {X : Cx} {e a b tg : Expr} {te ta tb : TE} {gg : TG} {p pos : Pos} {nm : Str} {f : Value}
theorem psp_ret (he : PEP X e te) : PSP X (.Return (some e) pos) (tRet te) := by
  refine ⟨fun pins s σ H D I h => ?_⟩
  rw [arm_exec_Return]
  refine bindP (standP ?_)
  show wpAnyP _ _ (eval e X.env >>= fun x => pure (PySem.Flow.ret x)) _ _ s
  exact bindP (thnP (he.run pins s σ H _ I h) fun v s1 ⟨x, H1, I1, r1, q1⟩ => pureP ⟨x, σ, H1, I1, r1, q1⟩)
theorem psp_asg (he : PEP X e te) (hg : PG X tg gg) (hs : swapsWithSole [tg] e pos.line X.env = pure false) (hw : swappedStores [tg] e X.env = pure none) (h1 : (assignEach [tg] X.env).map (·.2) = [assign tg X.env]) : PSP X (.Assign [tg] e pos) (tAsg te gg) := by
  refine ⟨fun pins s σ H D I h => ?_⟩
  rw [arm_exec_Assign]
  refine bindP (standP ?_)
  rw [hs]
  refine bindP (pureP ?_)
  rw [if_neg (by decide)]
  refine bindP (thnP (he.run pins s σ H _ I h) fun v s1 ⟨x, H1, I1, r1, q1⟩ => ?_)
  rw [hw]
  refine bindP (pureP ?_)
  show wpAnyP _ _ (do assignAll v ((assignEach [tg] X.env).map (·.2)); pure PySem.Flow.next) _ _ s1
  rw [h1]
  refine bindP (any_of ?_)
  exact wpAny_mono (hg.run pins s1 σ H1 x v _ I1 r1 q1) (fun _ s2 q => pureP q) fun _ _ z => z
/-- a built-in of one loud argument -/
theorem pep_blt {r : List V → Hp → VK → Prop} (he : PEP X e te) (hr : CallR X f r) (hk : ∀ M h, PySem.W.Looks M h (keeperOf f) .machine) (hg : Gl X nm) (hmg : X.mg nm = none) (hv : bootBuiltins nm = some f) (hnm : nm ≠ "__name__") (hdb : (nm == ("__debug__" : Str)) = false) (hs : noStars [e] = true) :
    PEP X (.Call (.Name nm p) [e] [] pos) (fun σ H Q => te σ H fun x H1 => r [x] H1 Q) := by
  have hs' := starEach_at (env := X.env) (es := []) (show notStar e = true by unfold noStars at hs; simp at hs; exact hs.1)
  refine ⟨fun pins s σ H Q I hq => ?_⟩
  rw [arm_call]
  refine bindP (any_of (ld_blt I hg hmg hv ?_ hnm hdb))
  rw [hs']
  refine withP (P := fun _ => True) rfl (fun h _ => ⟨.machine, .inr (.inl rfl), hk _ h⟩) (evalArgsP ?_)
  show wpAnyP _ _ (spliced ((false, eval e X.env) :: backTo pos (starEach [] X.env))) _ _ s
  rw [spliced]
  refine bindP (thnP (he.run pins s σ H _ I hq) fun u s1 ⟨x, H1, I1, r1, q1⟩ => ?_)
  simp only [Bool.false_eq_true, if_false]
  exact bindP (pureP (bindP (holdingP (pureP (pureP ⟨trivial, any_of (hr pins s1 σ H1 [x] [u] Q I1 (.cons r1 .nil) q1)⟩)))))
/-- a op b, a loud -/
theorem pep_cmp {op : CmpOp} {r : R2} (ha : PEP X a ta) (hb : PE X b tb) (ho : OpR X (compareOp op) r) (hm : behindInMarks op b = false) : PEP X (.Compare a [op] [b] pos) (fun σ H Q => ta σ H fun x H1 => tb σ H1 fun y H2 => r x y H2 Q) := by
  refine ⟨fun pins s σ H Q I hq => ?_⟩
  rw [eval_Compare1, markedBehindIn_of_false hm]
  refine bindP (thnP (ha.run pins s σ H _ I hq) fun v s1 ⟨x, H1, I1, r1, q1⟩ => any_of ?_)
  exact wpAny_bind (wpAny_holding (wpAny_mono (hb.run pins s1 σ H1 _ I1 q1) (fun u s2 ⟨y, H2, I2, r2, q2⟩ => wpAny_bind (wpAny_standAt (wpAny_operateT (ho pins s2 σ H2 x y v u Q I2 r1 r2 q2)))) fun _ _ z => z))
end
end RP


set_option maxHeartbeats 1000000
/-! EvRO: defs over Runs+: their promises, their calls. -/
namespace RP
open PySem PySem.Spec PyProof.Rows L2 GenW EV

structure FnGP (P : Program) (w : World) (K : PySem.W.Frag) (mg : Str → Option Value) (base : Heap) (k : Nat) (f : Addr) (fd : FuncData) (ps : List Str) (sp : Sp) : Prop where
  many : ∀ vs H Q E, sp vs H Q E → vs.length = ps.length
  runs : ∀ (A : Around) (outer : List PySem.Env) (s : Shared) (H : Hp) (args : Args) (us : List Value) (vs : List V) (Q : VK) (E : XK), RoomG k A → Env0 P w K mg base A outer s H → BindsTo s fd args (ps.zip us) → Vals vs us → sp vs H Q E →
    codeAnyP (model P w) A (.call (.ref f) args) (CR CX0 outer P w H s Q E) s
theorem code_funcP {P : Program} {w : World} {A : Around} {env : PySem.Env} {body : List Stmt} {R : Result → Shared → Prop} {s : Shared}
    (h : wpAnyP (model P w) (A.deeper env) (execs body env) (fun fl s' => R (.ok (.ret (match fl with | .ret v => v | _ => .none))) s') (fun _ _ => False) s) : codeAnyP (model P w) A (.func body env) R s := by
  refine code_tree ?_
  rw [show A.under (.func body env) = A.deeper env from rfl]
  show wpAnyP _ _ (point >>= fun _ => (execs body env).onRaise (leaving env) >>= _) _ _ s
  refine bindP (any_of (wpAny_point ?_))
  refine bindP (onRaiseP (monoP h (fun fl s' q => ?_) fun _ _ z => z.elim))
  cases fl <;> exact pureP q
theorem call_functionP {P : Program} {w : World} {A : Around} {R : Result → Shared → Prop} {s : Shared} {a : Addr} {args : Args} {o : Obj} {fd : FuncData} {body : List Stmt} (hroom : A.depth < recursionLimit) (ho : s.heap.get? a = some o) (hd' : o.data = .func fd) (hco : fd.scope.isCoroutine = false) (hgen : fd.scope.isGenerator = false)
    (hbody : fd.body = .stmts body) (hcd : s.heap.CodeRec fd.code fd.qualname)
    (h : wpAny (model P w) A.in1 (bindArgs fd args) (fun binds s₁ => wpAny (model P w) A.in1 (newFunctionEnv fd.scope fd.globals fd.closure binds (fd.qualname ++ ".<locals>.") (some a) fd.code none fd.builtins)
        (fun env s₂ => s₂.heap.NoLimit ∧ codeAnyP (model P w) A (.func body env) R s₂) (fun e s' => R (.error e) s') s₁) (fun e s' => R (.error e) s') s) : codeAnyP (model P w) A (.call (.ref a) args) R s := by
  refine code_tree ?_
  show wpAnyP _ A.in1 (callAny (.ref a) args) _ _ s
  simp only [callAny]
  refine bindP (any_of (wpAny_load ho ?_))
  obtain ⟨c, oc, vs, tq, hc, hoc, hdc, hq⟩ := hcd
  simp only [hd', callFunction, hco, hgen, hbody, hc]
  rw [hc] at h
  refine bindP (any_of (wpAny_field hoc hdc hq ?_))
  refine bindP (pureP ?_)
  refine bindP (any_of (wpAny_mono h (fun binds s₁ h₁ => bindP (any_of (wpAny_mono h₁ (fun env s₂ h₂ => bindP (any_of (wpAny_enterFrame h₂.1 hroom (pureP ⟨rfl, h₂.2⟩)))) fun _ _ z => z))) fun _ _ z => z))
theorem inv_gx0 {CX : CXT} {P : Program} {w : World} {K : PySem.W.Frag} {mg : Str → Option Value} {base : Heap} {N : List Str} {qual : Str} {scope : Scope} {f : Addr} {cd : Value} {A : Around} {outer : List PySem.Env} {s s1 : Shared} {H H' : Hp} {σ : L2.St} {E : XK} (I : Inv (cxOf CX P w K mg base N qual scope f cd A outer s H E) [] σ H' s1) :
    Inv (gxOf P w K mg base N qual scope f cd A outer s H []) [] σ H' s1 := by
  have ok := I.ok
  exact ⟨⟨ok.mod, ok.kind, ok.glob, ok.blt, ok.above, ok.inj, ok.has, ok.cab, ok.hd, ok.frames, ok.stk, ok.exf, ok.bs, ok.bsz, ok.noex, ok.exfs, ok.funs, ok.frf⟩, I.os, I.bare, I.base, I.loc, I.cell, I.free, I.freeC, I.pin, I.hok, I.len⟩
/-- a def by its body -/
theorem fnGP_of {P : Program} {w : World} {K : PySem.W.Frag} {mg : Str → Option Value} {base : Heap} {k : Nat} {f : Addr} {x qual : Str} {params : Arguments} {body : List Stmt} {scope : Scope} {dvs : List V} {kws : List (Str × V)} {fd : FuncData} {N ps : List Str} {sp : Sp} (F : FunD K x qual params body scope dvs kws f fd) (S : FnScope N ps scope)
    (many : ∀ vs H Q E, sp vs H Q E → vs.length = ps.length)
    (hbody : ∀ (cdv : Value) (A : Around) (outer : List PySem.Env) (s : Shared) (H : Hp) (vs : List V) (Q : VK) (E : XK), RoomG k (A.deeper (envOfC qual scope s.heap.objs.size f cdv)) → sp vs H Q E →
      ∃ t, PSsP (gxOf P w K mg base N qual scope f cdv A outer s H []) body t ∧ t { nx := fun _ H' => Q .non H', rt := Q } (start N vs) H) : FnGP P w K mg base (k + 1) f fd ps sp := by
  obtain ⟨oc, od, dV, kV, doc, pm, an, cdv, ct, osl, rfl, at_, code, -, -⟩ := F.ex
  constructor
  · exact many
  intro A outer s H args us vs Q E room e0 bound rv want
  have inK : K.In s.heap := e0.mod.kin.keeps fun b o e => (e0.bs b o e).1
  have noLim : s.heap.NoLimit := e0.mod.nolimit.keeps fun b o e => (e0.bs b o e).1
  have cell : ∀ {y : Str}, scope.names.lookup y = some .cell → ((cellsFrom (s.heap.objs.size + 1) scope.names []).lookup y).isSome = true := fun q => PySem.W.cellsFrom_some _ _ _ (.inl q)
  refine call_functionP room.room.depth (inK _ _ at_) rfl S.co S.gen rfl (PySem.W.codeRec_of inK code) (bound _ _ _ _ ?_)
  refine wpAny_newFunctionEnv_cells S.kind (fun y hy => (S.par y.1 (List.of_mem_zip (show (y.1, y.2) ∈ _ from hy)).1).imp id fun q => ⟨q, cell q⟩) fun env he s1 made => ?_
  subst he
  refine ⟨noLim.keeps made.toInCall.keep, code_funcP ?_⟩
  obtain ⟨t, does, goal⟩ := hbody cdv A outer s H vs Q E (room.inner _) want
  refine monoP (does.run [] s1 (start N vs) H _ (inv_gx0 (CX := CX0) (E := E) (inv_start S room.room.hd e0 (many _ _ _ _ want) rv made)) goal) (fun fl s' hs => ?_) fun e s' hs => hs
  have last : ∀ {σ' : L2.St} {H' : Hp} {v : V} {u : Value}, Inv (gxOf P w K mg base N qual scope f cdv A outer s H []) [] σ' H' s' → RelV v u → Q v H' → CE outer P w H s Q u s' :=
    fun {_ H' v _} J r q => ⟨v, H', J.os, J.bare, J.base, J.hok, r, q⟩
  rcases fl with u | _ | _ | _
  all_goals first
    | (obtain ⟨v, σ', H', J, r, q⟩ := hs; exact last J r q)
    | (obtain ⟨σ', H', J, q⟩ := hs; exact last (v := V.non) (u := Value.none) J rfl q)
    | (obtain ⟨_, _, _, q⟩ := hs; exact q.elim)
section
variable {X : Cx} {k : Nat} {f : Addr} {fd : FuncData} {ps : List Str} {sp : Sp} {dvs : List V} {ds : List Value} {x : Str} {p pos : Pos} {e : Expr} {es : List Expr} {t : TA}
/-- f(e, ..), f a loud def: exceptions do not come -/
theorem pep_callL (F : FnGP X.prog X.w X.K X.mg X.base k f fd ps sp) (hr : RoomG k X.A) (hg : Gl X x) (hm : X.mg x = some (.ref f)) (hk : PySem.W.keepIn X.K (.ref f) = true) (hb : Binds X.K fd ps ds) (hd : Vals dvs ds) (ha : PAP X (e :: es) t) (hdb : (x == ("__debug__" : Str)) = false) (hs : noStars (e :: es) = true) :
    PEP X (.Call (.Name x p) (e :: es) [] pos) (tCl sp dvs (fun _ _ _ _ => False) t) := by
  have hs' : notStar e = true ∧ noStars es = true := by unfold noStars at hs; rwa [Bool.and_eq_true] at hs
  refine ⟨fun pins s σ H Q I h => ?_⟩
  rw [arm_call]
  refine bindP (any_of (ld_glob I hg hm ?_ hdb))
  have run := ha.run pos pins s σ H _ I h
  have he : starEach (e :: es) X.env = (false, eval e X.env) :: starEach es X.env := starEach_at hs'.1
  have hpl : (backTo pos (starEach es X.env)).any (·.1) = false := plain_of hs'.2
  rw [he] at run ⊢
  refine withP (P := fun h => X.K.In h) (by show (false || (backTo pos (starEach es X.env)).any (·.1)) = false; rw [hpl]; rfl) (PySem.W.keeps_K hk) (evalArgsP (thnP run fun us s1 ⟨vs, H1, I1, r, q⟩ => ⟨I1.kIn, ?_⟩))
  have rr := r.append hd
  have hl : (us ++ ds).length = ps.length := rr.length.symm.trans (F.many _ _ _ _ q)
  refine callP (code_mono (F.runs X.A X.stack s1 H1 ⟨us, []⟩ _ _ Q (fun _ _ _ => False) hr I1.env0 (hb s1 us I1.kIn hl) rr q) fun r s' hq => ?_)
  cases r with
  | error e => exact False.elim hq
  | ok fl =>
    cases fl with
    | ret u => exact I1.after hq
    | next => exact False.elim hq
    | brk => exact False.elim hq
    | cont => exact False.elim hq
end
end RP


set_option maxHeartbeats 1000000
/-! EvRP: list comprehensions with a loud element, over Runs+. -/
namespace RP
open PySem PySem.Spec PyProof.Rows L2 GenW EV

/-- what a comprehension's block is to reach -/
def afterComp (Q : Value → Shared → Prop) (acc : Value) (C : Addr) : Result → Shared → Prop := fun r s' => match r with
  | .ok _ => ∃ m, s'.heap.Ns C m ∧ ∀ h', Heap.SameBut C s'.heap h' → Q acc { s' with heap := h' }
  | .error _ => False
section
variable {prog : Program} {w : World} {A : Around} {E : Value → Shared → Prop} {s : Shared} {env : PySem.Env}
theorem runP {M : Model} {c : Code} {Q : PySem.Flow → Shared → Prop} (h : codeAnyP M A c (fun r s' => match r with | .ok f => Q f s' | .error e => E e s') s) : wpAnyP M A (run c) Q E s := fun Γ p hΓ => by
  obtain ⟨r, s', hr, q⟩ := h _ p rfl (hΓ.enter c none p (by intro x; cases x))
  refine ⟨r, s', hr, ?_⟩
  cases r with
  | error e => exact q
  | ok f => exact q
theorem comprehensionP {e : Expr} {scope : Scope} {pos : Pos} {newAcc first : Sem Value} {g : Comprehension} {gs : List Comprehension} {cl : List (Str × Addr)} {Q : Value → Shared → Prop} (hcl : clausesOf e = g :: gs) (hs : ∀ x, foldedSetIterable g.iter env x = pure x) (hclos : closureFor scope env = pure cl)
    (hkind : scope.kind = .function) (hnames : ∀ x ∈ scope.names, x.2 = .local → scope.names.lookup x.1 = some .local)
    (h : wpAny (model prog w) A first (fun x s₁ => wpAny (model prog w) A (pyIter x) (fun it s₂ => wpAny (model prog w) A newAcc (fun acc s₃ => wpAny (model prog w) A (newFunctionEnv scope env.globals cl [] env.qual none .none (some env)) (fun cenv s₄ =>
        codeAnyP (model prog w) A (.compStart e 0 it acc { cenv with scope := relabel scope env }) (afterComp Q acc cenv.locals) s₄) E s₃) E s₂) E s₁) E s) :
    wpAnyP (model prog w) A (comprehension e scope env pos newAcc false first) Q E s := by
  unfold comprehension
  rw [hclos, hcl]
  refine bindP (any_of (wpAny_mono h (fun x s₁ h₁ => ?_) fun _ _ z => z))
  refine bindP (standP (bindP (any_of (wpAny_of_eq (hs x) ?_))))
  refine bindP (holdingP (any_of (wpAny_mono h₁ (fun it s₂ h₂ => ?_) fun _ _ z => z)))
  try dsimp only
  rw [if_neg (by decide)]
  refine bindP (any_of (wpAny_mono h₂ (fun acc s₃ h₃ => ?_) fun _ _ z => z))
  refine bindP (pureP (bindP (any_of (wpAny_mono h₃ (fun cenv s₄ h₄ => ?_) fun _ _ z => z))))
  try dsimp only
  have hv : ∀ x ∈ (scope.names.filter fun x => (x.2 == .local || x.2 == .cell) && x.1 != (".0" : Str)).reverse, x.2 = .local → Env.kindOf { cenv with scope := relabel scope env } x.1 = some .local :=
    fun x hx hl => lookup_relabel_local (hnames x (List.mem_filter.mp (List.mem_reverse.mp hx)).1 hl)
  refine holdingP (bindP (attemptP (holdingP (runP (code_mono h₄ fun r s' hr => ?_)))))
  cases r with
  | error x => exact False.elim hr
  | ok f =>
    obtain ⟨m, hn, hr⟩ := hr
    exact bindP (holdingP (any_of (wpAny_comp_letGo (cenv := { cenv with scope := relabel scope env }) hkind _ s' m hv hn fun h' m' _ hs' => pureP (hr h' hs'))))
theorem compStartP {R : Result → Shared → Prop} {elt target iter : Expr} {ifs : List Expr} {rest : List Comprehension} {scope : Scope} {pos : Pos} {it acc : Value} (h0 : codeAnyP (model prog w) A (.compLoop (.ListComp elt (⟨target, iter, ifs, 0⟩ :: rest) scope pos) 0 it acc env) R s)
    (h : wpAny (model prog w) A (pyIter it) (fun it' s' => codeAnyP (model prog w) A (.compLoop (.ListComp elt (⟨target, iter, ifs, 0⟩ :: rest) scope pos) 0 it' acc env) R s') (fun _ _ => False) s) :
    codeAnyP (model prog w) A (.compStart (.ListComp elt (⟨target, iter, ifs, 0⟩ :: rest) scope pos) 0 it acc env) R s := by
  refine code_tree ?_
  show wpAnyP _ A ((compStart (.ListComp elt (⟨target, iter, ifs, 0⟩ :: rest) scope pos) 0 it acc env).onRaise (fun x => do noteFrame x env; standAt theWindowsPlace)) _ _ s
  refine onRaiseP ?_
  unfold compStart
  show wpAnyP _ _ (ask >>= _) _ _ s
  refine bindP (any_of (wpAny_askSetting ?_))
  split
  · first
      | exact bindP (pureP (pureP ⟨rfl, h0⟩))
      | exact pureP ⟨rfl, h0⟩
  · refine bindP (any_of (wpAny_rule ?_))
    show wpAnyP _ _ (standAt iter.pos >>= _) _ _ s
    exact bindP (standP (bindP (any_of (wpAny_mono h (fun it' s' h' => pureP ⟨rfl, h'⟩) fun _ _ z => z.elim))))
theorem compLoopP {R : Result → Shared → Prop} {elt target iter : Expr} {ifs : List Expr} {scope : Scope} {pos : Pos} {it acc : Value} (I : Nat → Shared → Prop)
    (turn : ∀ n s, I n s → wpAny (model prog w) A (pyNext it) (fun r s₁ => match r with
      | none => R (.ok .next) s₁
      | some v => wpAny (model prog w) A (letOwnedTupleGo target it v) (fun _ s₁' => wpAny (model prog w) A (assign target env v) (fun _ s₂ => wpAny (model prog w) A (forIn ifs true fun c r => if r = true then do let ok ← isTrue c env (eval c env); pure (ForInStep.yield ok) else pure (ForInStep.yield r)) (fun ok s₃ =>
            if ok = true then wpAnyP (model prog w) A (eval elt env) (fun x s₄ => wpAny (model prog w) A (call (.builtin "list.append") [acc, x]) (fun _ s₅ => ∃ m, m < n ∧ I m s₅) (fun _ _ => False) s₄) (fun _ _ => False) s₃
            else ∃ m, m < n ∧ I m s₃) (fun _ _ => False) s₂) (fun _ _ => False) s₁') (fun _ _ => False) s₁) (fun _ _ => False) s) :
    ∀ (n : Nat) (s : Shared), I n s → codeAnyP (model prog w) A (.compLoop (.ListComp elt [⟨target, iter, ifs, 0⟩] scope pos) 0 it acc env) R s := by
  intro n
  induction n using Nat.strongRecOn with
  | ind n ih =>
    intro s hI
    refine code_tree ?_
    show wpAnyP _ A ((compTurn (.ListComp elt [⟨target, iter, ifs, 0⟩] scope pos) 0 it acc env).onRaise (fun x => do noteFrame x env; theTreesLotGoes x)) _ _ s
    refine onRaiseP ?_
    rw [compTurn_list]
    refine bindP (standP (bindP (any_of (wpAny_mono (turn n s hI) (fun r s₁ h₁ => ?_) fun _ _ z => z.elim))))
    cases r with
    | none => exact pureP h₁
    | some v =>
      refine bindP (any_of (wpAny_mono h₁ (fun _ s₁' h₁' => ?_) fun _ _ z => z.elim))
      refine bindP (any_of (wpAny_mono h₁' (fun _ s₂ h₂ => ?_) fun _ _ z => z.elim))
      refine bindP (any_of (wpAny_mono h₂ (fun ok s₃ h₃ => ?_) fun _ _ z => z.elim))
      cases ok with
      | false =>
        obtain ⟨m, hm, hI'⟩ := h₃
        exact pureP ⟨rfl, ih m hm s₃ hI'⟩
      | true =>
        refine bindP (bindP (monoP h₃ (fun x s₄ h₄ => ?_) fun _ _ z => z.elim))
        refine bindP (any_of (wpAny_mono h₄ (fun _ s₅ h₅ => ?_) fun _ _ z => z.elim))
        obtain ⟨m, hm, hI'⟩ := h₅
        exact pureP (pureP ⟨rfl, ih m hm s₅ hI'⟩)
end
section
variable {X : Cx}
theorem pep_lc {elt tg iter : Expr} {ifs : List Expr} {scope : Scope} {own : List (Str × Nat)} {pos : Pos} {wi : TI} {g : TG} {tt : TT} {te : TE} (hc : X.calm = true) (hN : X.N.Nodup) (hi : PI X tg iter wi) (ok : BlkOk X.N X.env.scope scope own)
    (hg : ∀ (s : Shared) (H : Hp) (C : Addr) (cl : List (Str × Addr)) (fp : List Addr), PG (X.blk s H scope (compEnvC scope cl C X.env) fp) tg g) (ht : ∀ (s : Shared) (H : Hp) (C : Addr) (cl : List (Str × Addr)) (fp : List Addr), PTs (X.blk s H scope (compEnvC scope cl C X.env) fp) ifs tt)
    (he : ∀ (s : Shared) (H : Hp) (C : Addr) (cl : List (Str × Addr)) (fp : List Addr), PEP (X.blk s H scope (compEnvC scope cl C X.env) fp) elt te) (hs : ∀ x, foldedSetIterable iter X.env x = pure x) : PEP X (.ListComp elt [⟨tg, iter, ifs, 0⟩] scope pos) (tLc wi g tt te (own.map (·.2))) := by
  refine ⟨fun pins s σ H Q I h => ?_⟩
  rw [eval_ListComp]
  have hfree : ∀ y ∈ scope.names, y.2 = .free → ∃ c, X.env.cells.lookup y.1 = some c := fun y hy e => by
    rcases ok.free y hy e with k | k
    · exact I.ok.has _ (.inl k)
    · exact I.ok.has _ (.inr k)
  refine comprehensionP rfl hs (closure_ok hfree) ok.kind (fun y hy e => by rw [ok.uniq y hy, e]) (thn (hi.run pins s σ H _ I h) fun xv s1 hx => thn hx fun itv s2 h2 => ?_)
  obtain ⟨it, fp, tn, J, H2, e, I2, T, st2, f2, q⟩ := h2
  subst e
  refine wpAny_newObj_type (newEnv_comp ?_) (by show 0 ≤ sizeLine; decide)
  generalize hD : s2.heap.objs.size = D
  have hDn : H2 D = none := I2.hok.fresh (Nat.le_of_eq hD)
  obtain ⟨W, ⟨m0, w0⟩, turn⟩ := q D hDn
  generalize hs3 : ({ s2 with heap := s2.heap.push { cls := .type "list", data := .seq ([] : List Value).toArray } } : Shared) = s3
  have I3 : Inv X pins σ (upd H2 D (.lst [])) s3 := by
    rw [← hs3]
    refine I2.laid (t' := s2.toks) (fun b o e => Heap.get?_push_of_some _ e) (Nat.le_of_eq hD) ⟨Nat.zero_le _, [], 0, .nil, ?_⟩
    rw [← hD]
    exact Heap.get?_push_size _ rfl
  have h3 : s3.heap = s2.heap.push { cls := .type "list", data := .seq ([] : List Value).toArray } := by rw [← hs3]
  have sz : ∀ b ∈ fp, b < s2.heap.objs.size := fun b hb => by
    obtain ⟨o, e, _⟩ := T.obj _ _ st2 b hb
    exact Heap.lt_size e
  have f3 : ∀ b ∈ fp, FpOk X pins (upd H2 D (.lst [])) b ∧ b < s3.heap.objs.size := fun b hb => by
    have hlt := sz b hb
    refine ⟨⟨?_, (f2 b hb).2⟩, by rw [h3, Heap.size_push]; exact Nat.lt_succ_of_lt hlt⟩
    rw [upd_ne (by rw [← hD]; exact Nat.ne_of_lt hlt)]
    exact (f2 b hb).1
  have st3 : tn 0 s3.heap := T.keep _ _ _ st2 fun b _ o e => by rw [h3]; exact Heap.get?_push_of_some _ e
  have I4 := block_start I3 ok hN f3
  have pg := hg s3 (upd H2 D (.lst [])) s3.heap.objs.size (cellsFrom (s3.heap.objs.size + 1) scope.names (cloFrom X.env.cells scope.names [])) fp
  have pt := ht s3 (upd H2 D (.lst [])) s3.heap.objs.size (cellsFrom (s3.heap.objs.size + 1) scope.names (cloFrom X.env.cells scope.names [])) fp
  have pe := he s3 (upd H2 D (.lst [])) s3.heap.objs.size (cellsFrom (s3.heap.objs.size + 1) scope.names (cloFrom X.env.cells scope.names [])) fp
  show codeAnyP _ _ (.compStart (.ListComp elt [⟨tg, iter, ifs, 0⟩] scope pos) 0 (.ref it) (.ref D) (compEnvC scope (cellsFrom (s3.heap.objs.size + 1) scope.names (cloFrom X.env.cells scope.names [])) s3.heap.objs.size X.env)) (afterComp (EP X pins σ Q) (.ref D) s3.heap.objs.size) { s3 with heap := pushCells (s3.heap.push { cls := .type "dict", data := .dict #[] }) scope.names }
  have nfp : ∀ b ∈ fp, (upd H2 D (.lst [])) b = none := fun b hb => (f3 b hb).1.1
  generalize hce : compEnvC scope (cellsFrom (s3.heap.objs.size + 1) scope.names (cloFrom X.env.cells scope.names [])) s3.heap.objs.size X.env = ce at I4 pg pt pe ⊢
  have cL : ce.locals = s3.heap.objs.size := by subst hce; rfl
  generalize hH3 : upd H2 D (.lst []) = H3 at I3 I4 pg pt pe w0 nfp f3
  generalize hs4 : ({ s3 with heap := pushCells (s3.heap.push { cls := .type "dict", data := .dict #[] }) scope.names } : Shared) = s4 at I4 ⊢
  have st4 : tn 0 s4.heap := T.keep _ _ _ st3 fun b _ o e => by rw [← hs4]; exact pushCells_keeps _ _ _ _ (Heap.get?_push_of_some _ e)
  have stat : ∀ {σ' : L2.St} {H' : Hp} {s' : Shared}, Inv (X.blk s3 H3 scope ce fp) [] σ' H' s' → (∀ b ∈ fp, H' b = none) → ∀ b ∈ fp, FpOk (X.blk s3 H3 scope ce fp) [] H' b := fun {σ' H' s'} I' hn b hb =>
    ⟨hn b hb, (I'.ok.exf b hb).1, I'.ok.exfs b hb, .inl hb, fun x c e => (I'.ok.exf b hb).2 x c e, fun p hp => absurd (show p ∈ ([] : List (Addr × Obj)) ++ [] from hp) (by simp)⟩
  have loop : codeAnyP (model X.prog X.w) X.A (.compLoop (.ListComp elt [⟨tg, iter, ifs, 0⟩] scope pos) 0 (.ref it) (.ref D) ce) (afterComp (EP X pins σ Q) (.ref D) s3.heap.objs.size) s4 := by
    refine compLoopP (fun n s' => ∃ i H', Inv (X.blk s3 H3 scope ce fp) [] (wipe σ (own.map (·.2))) H' s' ∧ tn i s'.heap ∧ (∀ b ∈ fp, H' b = none) ∧ W i n H') ?_ m0 s4 ⟨0, H3, I4, st4, nfp, w0⟩
    rintro n s5 ⟨i, H5, I5, st5, n5, w5⟩
    rcases turn i n H5 w5 with ⟨stop, qq⟩ | ⟨go, Nx, hNx, step⟩
    · refine thnF (T.done (X.blk s3 H3 scope ce fp) rfl rfl rfl hc i [] s5 _ H5 (fun _ _ => False) I5 (stat I5 n5) st5 stop) fun r s6 ⟨hr, I6⟩ => ?_
      subst hr
      have I7 : Inv X pins σ H5 s6 := I3.call' (ch := fp) I6.os I6.base I6.hok I6.bare fun b hb => ⟨(f3 b hb).1.2.2.2.1, (f3 b hb).1.2.1, (f3 b hb).1.2.2.2.2.1, (f3 b hb).1.2.2.2.2.2⟩
      have nC : H5 s3.heap.objs.size = none := by
        have z : H5 ce.locals = none := I6.free
        rw [cL] at z
        exact z
      obtain ⟨m, hn, _⟩ := I6.loc
      have hn : s6.heap.Ns ce.locals m := hn
      rw [cL] at hn
      refine ⟨m, hn, fun h'' sb => ?_⟩
      obtain ⟨f0, f1, f2, f3, f4, f5⟩ := I3.fpOk (Nat.le_refl _) nC
      exact ⟨.ref D, H5, I7.turned (t' := s6.toks) (fun b o hb e => (sb.2 b hb).trans e) f0 f1 f3 f4 f5, rfl, qq⟩
    · refine thnF (T.item (X.blk s3 H3 scope ce fp) rfl rfl rfl hc i [] s5 _ H5 (fun _ _ => False) I5 (stat I5 n5) st5 go) fun r s6 ⟨u, hr, h6⟩ => ?_
      subst hr
      refine thnF h6 fun _ s7 ⟨x, H7, I7, r7, y7, st7, n7⟩ => ?_
      have I7' := I7.pinned (stat I7 n7) (T.obj _ _ st7)
      refine thnF (pg.run _ s7 _ H7 x u _ I7' r7 (step x H7 y7)) fun _ s8 ⟨σ8, H8, I8, hw8, q8⟩ => ?_
      refine thnF (pt.run _ s8 σ8 H8 _ I8 q8) fun b s9 ⟨H9, I9, q9⟩ => ?_
      have fin : ∀ {s' : Shared} {H' : Hp}, Inv (X.blk s3 H3 scope ce fp) ([] ++ pinsAt fp s7.heap) σ8 H' s' → Nx H' → ∃ m, m < n ∧ ∃ i H', Inv (X.blk s3 H3 scope ce fp) [] (wipe σ (own.map (·.2))) H' s' ∧ tn i s'.heap ∧ (∀ b ∈ fp, H' b = none) ∧ W i m H' := fun {s' H'} I' nx => by
        obtain ⟨m', hm, w'⟩ := hNx H' nx
        have pin' : ∀ b ∈ fp, ∀ o, s7.heap.get? b = some o → s'.heap.get? b = some o ∧ H' b = none := fun b hb o e =>
          let z := I'.pin (b, o) (List.mem_append_right _ (List.mem_append_right _ (mem_pinsAt hb e)))
          ⟨z.1, z.2.1⟩
        have hl : (wipe σ (own.map (·.2))).length = σ8.length := by rw [← hw8, wipe_length]
        refine ⟨m', hm, i + 1, H', (I'.unpinned (pins := [])).weak hl (fun j v e => ?_), T.keep _ _ _ st7 fun b hb o e => (pin' b hb o e).1, fun b hb => ?_, w'⟩
        · rw [← hw8] at e
          exact (wipe_some e).1
        · obtain ⟨o, e, _⟩ := T.obj _ _ st7 b hb
          exact (pin' b hb o e).2
      cases b with
      | false =>
        simp only [Bool.false_eq_true, if_false] at q9 ⊢
        exact fin I9 q9
      | true =>
        simp only [if_true] at q9 ⊢
        refine monoP (pe.run _ s9 σ8 H9 _ I9 q9) (fun z s10 ⟨yv, H10, I10, r10, acc, hD10, hz10, nx⟩ => ?_) fun _ _ z => z.elim
        exact app_ok (X := X.blk s3 H3 scope ce fp) I10 hD10 hz10 r10 fun s11 I11 => fin I11 nx
  exact compStartP loop (T.self X.A 0 _ _ _ st4 loop)
end
end RP


set_option maxHeartbeats 1000000
/-! EvRQ: the evaluator's rules over Runs+. -/
namespace RP
open PySem PySem.Spec PyProof.Rows L2 GenW EV
section
variable {X : Cx} {C : EV.Ctx} {W : WX} {pos p : Pos} {a b e tg iter elt : Expr} {es ifs : List Expr} {ma mb me : M D} {ms : M (List D)} {mi : MI} {st : Stmt} {sts : List Stmt} {sa sb : MS} {ta : M Bool}
theorem weakEP {t t' : TE} (h : PEP X e t) (w : ∀ σ H Q, t' σ H Q → t σ H Q) : PEP X e t' := ⟨fun pins s σ H Q I q => h.run pins s σ H Q I (w σ H Q q)⟩
theorem weakAP {t t' : TA} (h : PAP X es t) (w : ∀ σ H Q, t' σ H Q → t σ H Q) : PAP X es t' := ⟨fun pos pins s σ H Q I q => h.run pos pins s σ H Q I (w σ H Q q)⟩
theorem weakSP {t t' : TS} (h : PSP X st t) (w : ∀ Z σ H, t' Z σ H → t Z σ H) : PSP X st t' := ⟨fun pins s σ H Z I q => h.run pins s σ H Z I (w Z σ H q)⟩
theorem weakSsP {t t' : TS} (h : PSsP X sts t) (w : ∀ Z σ H, t' Z σ H → t Z σ H) : PSsP X sts t' := ⟨fun pins s σ H Z I q => h.run pins s σ H Z I (w Z σ H q)⟩
theorem evlp_cons (ha : PEP X a (tE C W ma)) (hr : PAP X es (tL C W ms)) (hs : notStar a = true) : PAP X (a :: es) (tL C W (mcons ma ms)) :=
  weakAP (pap_cons ha hr (starEach_at hs)) fun σ H Q ⟨ρ, env, hd, er, sh, p⟩ =>
    seqE er sh p fun v H1 ρ1 hd1 d x er1 sh1 r1 p1 => seqL er1 sh1 p1 fun vs H2 ρ2 hd2 ds x2 er2 sh2 r2 p2 => p2.here sh2 (RelL.cons (Rel.ext x2 _ _ r1) r2)
theorem evsp_ret (he : PEP X e (tE C W ma)) : PSP X (.Return (some e) pos) (tS C W (sRet ma)) :=
  weakSP (psp_ret he) fun Z σ H ⟨ρ, env, hd, er, sh, p⟩ => goE er sh p fun v H1 ρ1 hd1 d x er1 sh1 r1 p1 => (p1.here sh1 er1) v r1
theorem evsp_asg {sl : List Nat} {g : MG} (he : PEP X e (tE C W ma)) (hg : PG X tg (tG C sl g)) (hp : plainAsg tg e = true) : PSP X (.Assign [tg] e pos) (tS C W (sAsg ma g)) := by
  unfold plainAsg at hp
  simp only [Bool.and_eq_true] at hp
  obtain ⟨⟨h1, h2⟩, h3⟩ := hp
  refine weakSP (psp_asg he hg (swaps_tg h1) ?_ (assign_at h2)) fun Z σ H ⟨ρ, env, hd, er, sh, p⟩ => go_asg er sh p
  cases tg <;> cases e <;> first | rfl | cases h3
theorem evssp_one (h : PSP X st (tS C W sa)) : PSsP X [st] (tS C W sa) := pssp_one h
theorem evssp_cons (h : PSP X st (tS C W sa)) (hr : PSsP X sts (tS C W sb)) : PSsP X (st :: sts) (tS C W (sSeq sa sb)) :=
  weakSsP (pssp_cons h hr) fun Z σ H ⟨ρ, env, hd, er, sh, p⟩ => by
    refine ⟨ρ, env, hd, er, sh, ?_⟩
    unfold sSeq at p
    cases hm : sa env hd with
    | none => rw [hm] at p; exact p
    | some q =>
      obtain ⟨fl, env', hd'⟩ := q
      rw [hm] at p
      cases fl with
      | nx => exact fun ρ2 H2 σ2 x s e l => ⟨ρ2, env', hd', e, s, by rw [l]; exact p.ext x⟩
      | bk => exact p
      | ct => exact p
      | ret d => exact p
      | exc x => exact p
theorem evsp_if {body : List Stmt} (hc : PTP X e (tT C W ta)) (ha : PSsP X sts (tS C W sa)) (hb : PSsP X body (tS C W sb)) : PSP X (.If e sts body pos) (tS C W (sIf ta sa sb)) :=
  weakSP (psp_if hc ha hb) fun Z σ H ⟨ρ, env, hd, er, sh, p⟩ => goT er sh p fun k H1 ρ1 hd1 x er1 sh1 p1 => by
    cases k with
    | true => exact ⟨ρ1, env, hd1, er1, sh1, p1⟩
    | false => exact ⟨ρ1, env, hd1, er1, sh1, p1⟩
theorem evp_comp {scope : Scope} {own : List (Str × Nat)} {m : Bool} {sl : List Nat} {g : MG} {tt : TT} {cond : M Bool} (hc : X.calm = true) (hN : X.N.Nodup) (hsl : ∀ j ∈ sl, j ∈ own.map (·.2)) (hi : PI X tg iter (tI C W mi)) (ok : BlkOk X.N X.env.scope scope own)
    (hg : ∀ (s : Shared) (H : Hp) (Cc : Addr) (cl : List (Str × Addr)) (fp : List Addr), PG (X.blk s H scope (compEnvC scope cl Cc X.env) fp) tg (tG C sl g)) (hts : ∀ (s : Shared) (H : Hp) (Cc : Addr) (cl : List (Str × Addr)) (fp : List Addr), PTs (X.blk s H scope (compEnvC scope cl Cc X.env) fp) ifs tt)
    (ht : ∀ σ H Q, tT C W0 cond σ H Q → tt σ H Q) (he : ∀ (s : Shared) (H : Hp) (Cc : Addr) (cl : List (Str × Addr)) (fp : List Addr), PEP (X.blk s H scope (compEnvC scope cl Cc X.env) fp) elt (tE C W0 me)) (hs : ∀ x, foldedSetIterable iter X.env x = pure x) :
    PEP X (.ListComp elt [⟨tg, iter, ifs, 0⟩] scope pos) (tE C W (mcomp m (own.map (·.2)) mi g cond me)) :=
  weakEP (pep_lc hc hN hi ok hg hts he hs) fun σ H Q h => comp_ok hc hN hsl ht h
theorem evp_cmp {op : CmpOp} {m : Bool} {f : Op2} (ho : OpR X (compareOp op) (rO2 C f)) (ha : PEP X a (tE C W ma)) (hb : PE X b (tE C W mb)) (hm : behindInMarks op b = false) : PEP X (.Compare a [op] [b] pos) (tE C W (mop2 m f ma mb)) :=
  weakEP (pep_cmp ha hb ho hm) fun _ _ _ h => seq_op2 h
def mfun1 (m : Bool) (f : OpN) (a : M D) : M D := fun env h => (a env h).bind fun x h1 => fin m (f [x] h1) h1
theorem mfun_one {m : Bool} {f : OpN} : mfun m f (mcons ma mnil) = mfun1 m f ma := by
  funext env h
  unfold mfun mfun1 mcons mnil
  cases ma env h <;> rfl
theorem evp_fun1 {m : Bool} {f : OpN} {nm : Str} {F : Value} (hr : CallR X F (rON C f)) (hk : ∀ M h, PySem.W.Looks M h (keeperOf F) .machine) (he : PEP X e (tE C W ma)) (hg : Gl X nm) (hmg : X.mg nm = none) (hv : bootBuiltins nm = some F) (hnm : nm ≠ "__name__") (hdb : (nm == ("__debug__" : Str)) = false) (hs : noStars [e] = true) :
    PEP X (.Call (.Name nm p) [e] [] pos) (tE C W (mfun m f (mcons ma mnil))) := by
  rw [mfun_one]
  exact weakEP (pep_blt he hr hk hg hmg hv hnm hdb hs) fun σ H Q ⟨ρ, env, hd, er, sh, p⟩ => seqE er sh p fun v H1 ρ1 hd1 d x er1 sh1 r1 p1 => ⟨ρ1, hd1, [d], sh1, RelL.cons r1 RelL.nil, p1.fin sh1⟩
theorem evp_call {k n : Nat} {f : Addr} {fd : FuncData} {ps : List Str} {F : FunT} {x : Str} {dd : List D} {dvs : List V} {ds : List Value} (G : FnGP X.prog X.w X.K X.mg X.base k f fd ps (spM C n F)) (hr : RoomG k X.A) (hg : Gl X x) (hm : X.mg x = some (.ref f)) (hk : PySem.W.keepIn X.K (.ref f) = true) (hb : Binds X.K fd ps ds) (hd : Vals dvs ds)
    (hdd : ∀ ρ H, RelL C ρ H dd dvs) (ha : PAP X (e :: es) (tL C W0 ms)) (hdb : (x == ("__debug__" : Str)) = false) (hs : noStars (e :: es) = true) : PEP X (.Call (.Name x p) (e :: es) [] pos) (tE C W0 (mcall F n dd ms)) :=
  weakEP (pep_callL G hr hg hm hk hb hd ha hdb hs) fun σ H Q ⟨ρ, env, hd, er, sh, p⟩ => seqL er sh p fun vs H1 ρ1 hd1 ds x er1 sh1 r1 p1 => by
    split at p1
    · rename_i hl
      have rr := r1.append (hdd ρ1 H1)
      exact ⟨rr.length.symm.trans hl, ρ1, hd1, _, sh1, rr, p1⟩
    · exact p1.elim
end
end RP


set_option maxHeartbeats 1000000
/-! EvRS: generator bodies in the evaluator. -/
namespace RP
open PySem PySem.Spec PyProof.Rows L2 GenW EV

/-- a statement of a generator's body: the list is what has been handed out -/
abbrev MGn := EV.Env → Hd → List D → Option (Fl × EV.Env × Hd × List D)
def EndGn (C : EV.Ctx) (Z : GEnds) (ρ' : RhoT) (H' : Hp) (σ' : L2.St) (ys' : List V) : Fl → Prop
  | .nx => Z.nx ys' σ' H'
  | .bk => Z.bk ys' σ' H'
  | .ct => Z.ct ys' σ' H'
  | .ret d => ∀ v, Rel C ρ' H' d v → Z.rt ys' v H'
  | .exc _ => False
def PostGn (C : EV.Ctx) (ρ : RhoT) (H : Hp) (Z : GEnds) (n : Nat) : Option (Fl × EV.Env × Hd × List D) → Prop
  | none => False
  | some (fl, env', hd', acc') => ∀ ρ' H' σ' ys', Ext ρ ρ' H H' → SimH C ρ' H' hd' → EnvRel C ρ' H' env' σ' → RelL C ρ' H' acc' ys' → σ'.length = n → EndGn C Z ρ' H' σ' ys' fl
def tGn (C : EV.Ctx) (m : MGn) : TGn := fun Z ys σ H => ∃ ρ env hd acc, EnvRel C ρ H env σ ∧ SimH C ρ H hd ∧ RelL C ρ H acc ys ∧ PostGn C ρ H Z σ.length (m env hd acc)
def gQ (s : MS) : MGn := fun env h acc => match s env h with
  | some (fl, e, h') => some (fl, e, h', acc)
  | none => none
def gYield (m : M D) : MGn := fun env h acc => match m env h with
  | .ok d h1 => if acc.length < sizeLine then some (.nx, env, h1, acc ++ [d]) else none
  | _ => none
def gSeq (a b : MGn) : MGn := fun env h acc => match a env h acc with
  | some (.nx, e, h', acc') => b e h' acc'
  | r => r
def gIf (c : M Bool) (a b : MGn) : MGn := fun env h acc => match c env h with
  | .ok true h1 => a env h1 acc
  | .ok false h1 => b env h1 acc
  | _ => none
def gLoop (g : MG) (body : MGn) : List D → MGn
  | [], env, h, acc => some (.nx, env, h, acc)
  | x :: xs, env, h, acc => match g x env h with
    | none => none
    | some (env1, h1) => match body env1 h1 acc with
      | some (.nx, e2, h2, acc2) => gLoop g body xs e2 h2 acc2
      | some (.ct, e2, h2, acc2) => gLoop g body xs e2 h2 acc2
      | some (.bk, e2, h2, acc2) => some (.nx, e2, h2, acc2)
      | r => r
def gFor (it : MI) (g : MG) (body : MGn) : MGn := fun env h acc => match it env h with
  | .ok items h1 => gLoop g body items env h1 acc
  | _ => none
abbrev GenT := List D → Hd → List D → Option (List D × Hd)
def gFrom (F : GenT) (n : Nat) (as : M (List D)) : MGn := fun env h acc => match as env h with
  | .ok xs h1 => if xs.length = n then (match F xs h1 acc with
    | some (acc', h2) => some (.nx, env, h2, acc')
    | none => none) else none
  | _ => none
def runG (n : Nat) (m : MGn) : GenT := fun ds hd acc => match m (startE n ds) hd acc with
  | some (.nx, _, h, acc') => some (acc', h)
  | _ => none
section
variable {X : Cx} {C : EV.Ctx} {pos yp : Pos} {e c : Expr} {st : Stmt} {sts body : List Stmt} {ms : MS} {ma : M D} {ta : M Bool} {ga gb : MGn}
theorem weakG {t t' : TGn} (h : GPS X st t) (w : ∀ Z ys σ H, t' Z ys σ H → t Z ys σ H) : GPS X st t' := ⟨fun A p ip Q n ys c fs K J gd lv s σ H D g hn k hI hz q => h.run A p ip Q n ys c fs K J gd lv s σ H D g hn k hI hz (w D ys σ H q)⟩
theorem weakGs {t t' : TGn} (h : GPSs X sts t) (w : ∀ Z ys σ H, t' Z ys σ H → t Z ys σ H) : GPSs X sts t' := ⟨fun A p ip Q n ys c fs K J gd lv s σ H D g hn k hI hz q => h.run A p ip Q n ys c fs K J gd lv s σ H D g hn k hI hz (w D ys σ H q)⟩
theorem quietG {Z : GEnds} {ys : List V} {σ : L2.St} {H : Hp} (h : tGn C (gQ ms) Z ys σ H) : tPlain (tS C W0 ms) Z ys σ H := by
  obtain ⟨ρ, env, hd, acc, er, sh, ra, p⟩ := h
  refine ⟨ρ, env, hd, er, sh, ?_⟩
  unfold gQ at p
  cases hm : ms env hd with
  | none => rw [hm] at p; exact p
  | some q =>
    obtain ⟨fl, env', hd'⟩ := q
    rw [hm] at p
    intro ρ' H' σ' x s e l
    have z := p ρ' H' σ' ys x s e (RelL.ext x _ _ ra) l
    cases fl with
    | exc _ => exact z.elim
    | _ => exact z
theorem evg_q (h : PS X st (tS C W0 ms)) : GPS X st (tGn C (gQ ms)) := weakG (gps_of h) fun Z ys σ H => quietG
theorem evgs_q (h : PSs X sts (tS C W0 ms)) : GPSs X sts (tGn C (gQ ms)) := weakGs (gpss_of h) fun Z ys σ H => quietG
theorem evgs_one (h : GPS X st (tGn C ga)) : GPSs X [st] (tGn C ga) := gpss_one h
theorem evgs_cons (h : GPS X st (tGn C ga)) (hr : GPSs X sts (tGn C gb)) : GPSs X (st :: sts) (tGn C (gSeq ga gb)) :=
  weakGs (gpss_cons h hr) fun Z ys σ H ⟨ρ, env, hd, acc, er, sh, ra, p⟩ => by
    refine ⟨ρ, env, hd, acc, er, sh, ra, ?_⟩
    unfold gSeq at p
    cases hm : ga env hd acc with
    | none => rw [hm] at p; exact p
    | some q =>
      obtain ⟨fl, env', hd', acc'⟩ := q
      rw [hm] at p
      cases fl with
      | nx =>
        intro ρ2 H2 σ2 ys2 x s e r l
        refine ⟨ρ2, env', hd', acc', e, s, r, ?_⟩
        dsimp only at p
        rw [l]
        cases hb : gb env' hd' acc' with
        | none => rw [hb] at p; exact p
        | some q2 =>
          obtain ⟨fl2, env2, hd2, acc2⟩ := q2
          rw [hb] at p
          exact fun ρ3 H3 σ3 ys3 y => p ρ3 H3 σ3 ys3 (x.trans y)
      | bk => exact p
      | ct => exact p
      | ret d => exact p
      | exc x => exact p
theorem PostGn.ext {ρ ρ' : RhoT} {H H' : Hp} {Z : GEnds} {n : Nat} {r : Option (Fl × EV.Env × Hd × List D)} (x : Ext ρ ρ' H H') (p : PostGn C ρ H Z n r) : PostGn C ρ' H' Z n r := by
  cases r with
  | none => exact p
  | some q => obtain ⟨fl, env', hd', acc'⟩ := q; exact fun ρ2 H2 σ2 ys2 y => p ρ2 H2 σ2 ys2 (x.trans y)
theorem evg_if (hc : PT X c (tT C W0 ta)) (ha : GPSs X sts (tGn C ga)) (hb : GPSs X body (tGn C gb)) : GPS X (.If c sts body pos) (tGn C (gIf ta ga gb)) :=
  weakG (gps_if hc ha hb) fun Z ys σ H ⟨ρ, env, hd, acc, er, sh, ra, p⟩ => by
    refine ⟨ρ, env, hd, er, sh, ?_⟩
    unfold gIf at p
    cases hm : ta env hd with
    | bad => rw [hm] at p; exact p.elim
    | exc x h => rw [hm] at p; exact p.elim
    | ok b h1 =>
      rw [hm] at p
      intro ρ1 H1 d x1 s1 e1
      subst e1
      cases d with
      | true => exact ⟨ρ1, env, h1, acc, er.ext x1, s1, RelL.ext x1 _ _ ra, p.ext x1⟩
      | false => exact ⟨ρ1, env, h1, acc, er.ext x1, s1, RelL.ext x1 _ _ ra, p.ext x1⟩
theorem evg_yield (he : PE X e (tE C W0 ma)) (hco : X.env.scope.isCoroutine = false) (hi : interactive X.env = false) : GPS X (.Expr (.Yield (some e) yp) pos) (tGn C (gYield ma)) :=
  weakG (gps_yield he hco hi) fun Z ys σ H ⟨ρ, env, hd, acc, er, sh, ra, p⟩ => by
    unfold gYield at p
    cases hm : ma env hd with
    | bad => rw [hm] at p; exact p.elim
    | exc x h => rw [hm] at p; exact p.elim
    | ok d h1 =>
      rw [hm] at p
      dsimp only at p
      split at p
      · rename_i hl
        refine ⟨by rw [← ra.length]; exact hl, ρ, env, hd, er, sh, ?_⟩
        rw [hm]
        intro ρ1 H1 v x1 s1 r1
        exact p ρ1 H1 σ _ x1 s1 (er.ext x1) ((RelL.ext x1 _ _ ra).append (RelL.cons r1 RelL.nil)) rfl
      · exact p.elim
/-- a generator def's promise in the evaluator -/
def spG (C : EV.Ctx) (n : Nat) (F : GenT) : SpP := fun vs H ys Q => vs.length = n ∧ ∃ ρ hd ds acc, SimH C ρ H hd ∧ RelL C ρ H ds vs ∧ RelL C ρ H acc ys ∧ match F ds hd acc with
  | some (acc', hd') => ∀ ρ' H' ys', Ext ρ ρ' H H' → SimH C ρ' H' hd' → RelL C ρ' H' acc' ys' → Q ys' H'
  | none => False
theorem evg_from {k n : Nat} {f : Addr} {fd : FuncData} {ps : List Str} {F : GenT} {x : Str} {q : Pos} {es : List Expr} {as : M (List D)} (G : GFnP X.prog X.w X.K X.mg X.base k f fd ps (spG C n F)) (hr : RoomG (k + 1) X.A) (hg : Gl X x) (hm : X.mg x = some (.ref f)) (hk : PySem.W.keepIn X.K (.ref f) = true) (hb : Binds X.K fd ps [])
    (ha : PA X (e :: es) (tL C W0 as)) (hdb : (x == ("__debug__" : Str)) = false) (hs : noStars (e :: es) = true) (hi : interactive X.env = false) : GPS X (.Expr (.YieldFrom (.Call (.Name x q) (e :: es) [] yp) pos) pos) (tGn C (gFrom F n as)) :=
  weakG (gps_from (pgen_callP G (hr.weak (Nat.le_succ k)) hg hm hk hb .nil ha hdb hs) hr hi) fun Z ys σ H ⟨ρ, env, hd, acc, er, sh, ra, p⟩ => by
    unfold gFrom at p
    refine ⟨ρ, env, hd, er, sh, ?_⟩
    cases hm : as env hd with
    | bad => rw [hm] at p; exact p.elim
    | exc x h => rw [hm] at p; exact p.elim
    | ok xs h1 =>
      rw [hm] at p
      dsimp only at p
      split at p
      · rename_i hl
        intro ρ1 H1 vs x1 s1 r1
        refine ⟨by rw [List.append_nil, ← r1.length]; exact hl, ρ1, h1, xs, acc, s1, by rw [List.append_nil]; exact r1, RelL.ext x1 _ _ ra, ?_⟩
        cases hF : F xs h1 acc with
        | none => rw [hF] at p; exact p
        | some q2 =>
          obtain ⟨acc', h2⟩ := q2
          rw [hF] at p
          intro ρ2 H2 ys2 x2 s2 r2
          exact p ρ2 H2 σ ys2 (x1.trans x2) s2 ((er.ext x1).ext x2) r2 rfl
      · exact p.elim
/-- list(f(..)), f a generator def -/
def mlistG (m : Bool) (F : GenT) (n : Nat) (as : M (List D)) : M D := fun env h => (as env h).bind fun xs h1 => if xs.length = n then (match F xs h1 [] with
  | some (acc, h2) => fin m (if acc.length ≤ sizeLine then some (.new acc) else none) h2
  | none => .bad) else .bad
theorem evg_for {tg iter : Expr} {mi : MI} {sl : List Nat} {g : MG} (hc : X.calm = true) (hi : PI X tg iter (tI C W0 mi)) (hg : PG X tg (tG C sl g)) (hb : GPSs X body (tGn C ga)) (hs : ∀ x, foldedSetIterable iter X.env x = pure x) : GPS X (.For tg iter body [] pos) (tGn C (gFor mi g ga)) :=
  weakG (gps_for hc hi hg hb hs) fun Z ys σ H ⟨ρ, env, hd, acc, er, sh, ra, p⟩ => by
    refine ⟨ρ, env, hd, er, sh, ?_⟩
    unfold gFor at p
    cases hm : mi env hd with
    | bad => rw [hm] at p; exact p.elim
    | exc x h => rw [hm] at p; exact p.elim
    | ok items h0 =>
      rw [hm] at p
      intro ρ1 H1 J x1 s1 ir
      refine ⟨fun i k ys' σ' H' => k = items.length - i ∧ i ≤ items.length ∧ σ'.length = σ.length ∧ ∃ ρ' env' hd' acc', Ext ρ1 ρ' H1 H' ∧ EnvRel C ρ' H' env' σ' ∧ SimH C ρ' H' hd' ∧ RelL C ρ' H' acc' ys' ∧ PostGn C ρ' H' Z σ.length (gLoop g ga (items.drop i) env' hd' acc'),
        ⟨_, rfl, Nat.zero_le _, rfl, ρ1, env, h0, acc, Ext.refl, er.ext x1, s1, RelL.ext x1 _ _ ra, p.ext x1⟩, ?_⟩
      rintro i k ys' σ' H' ⟨rfl, hi', hl', ρ', env', hd', acc', x', er', sh', ra', p'⟩
      by_cases hlt : i < items.length
      · refine .inr ⟨ir.go ρ' H' i x'.keeps hlt, fun ys2 σ2 H2 => σ2.length = σ.length ∧ ∃ ρ2 env2 hd2 acc2, Ext ρ1 ρ2 H1 H2 ∧ EnvRel C ρ2 H2 env2 σ2 ∧ SimH C ρ2 H2 hd2 ∧ RelL C ρ2 H2 acc2 ys2 ∧ PostGn C ρ2 H2 Z σ.length (gLoop g ga (items.drop (i + 1)) env2 hd2 acc2),
          fun ys2 σ2 H2 ⟨l2, ρ2, env2, hd2, acc2, y1, y2, y3, y5, y4⟩ => ⟨items.length - (i + 1), by omega, rfl, hlt, l2, ρ2, env2, hd2, acc2, y1, y2, y3, y5, y4⟩, fun x H2 hy => ?_⟩
        obtain ⟨y1, y2, y3⟩ := ir.yld ρ' H' i x H2 hd' items[i] x'.keeps sh' (List.getElem?_eq_getElem hlt) hy
        rw [List.drop_eq_getElem_cons hlt] at p'
        unfold gLoop at p'
        refine ⟨ρ', env', hd', items[i], er'.ext y1, y2, y3, ?_⟩
        cases hg1 : g items[i] env' hd' with
        | none => rw [hg1] at p'; exact p'
        | some q1 =>
          obtain ⟨env1, h1⟩ := q1
          rw [hg1] at p'
          intro ρ3 H3 σ3 x3 s3 e3 l3
          refine ⟨ρ3, env1, h1, acc', e3, s3, RelL.ext (y1.trans x3) _ _ ra', ?_⟩
          dsimp only at p'
          have p3 := p'.ext (y1.trans x3)
          have l3' : σ3.length = σ.length := l3.1.trans hl'
          cases hb1 : ga env1 h1 acc' with
          | none => rw [hb1] at p3; exact p3.elim
          | some q2 =>
            obtain ⟨fl, e2, h2, acc2⟩ := q2
            rw [hb1] at p3
            have xx := x'.trans (y1.trans x3)
            cases fl with
            | nx => exact fun ρ4 H4 σ4 ys4 x4 s4 e4 r4 l4 => ⟨l4.trans l3', ρ4, e2, h2, acc2, xx.trans x4, e4, s4, r4, p3.ext x4⟩
            | ct => exact fun ρ4 H4 σ4 ys4 x4 s4 e4 r4 l4 => ⟨l4.trans l3', ρ4, e2, h2, acc2, xx.trans x4, e4, s4, r4, p3.ext x4⟩
            | bk => exact fun ρ4 H4 σ4 ys4 x4 s4 e4 r4 l4 => p3 ρ4 H4 σ4 ys4 x4 s4 e4 r4 (l4.trans l3')
            | ret d => exact fun ρ4 H4 σ4 ys4 x4 s4 e4 r4 l4 => p3 ρ4 H4 σ4 ys4 x4 s4 e4 r4 (l4.trans l3')
            | exc x => exact fun ρ4 H4 σ4 ys4 x4 s4 e4 r4 l4 => p3 ρ4 H4 σ4 ys4 x4 s4 e4 r4 (l4.trans l3')
      · have hie : i = items.length := by omega
        subst hie
        rw [List.drop_length] at p'
        exact .inl ⟨ir.stop ρ' H' x'.keeps, p' ρ' H' σ' ys' Ext.refl sh' er' ra' hl'⟩
theorem gfn_soundP {P : Program} {w : World} {mg : Str → Option Value} {base : Heap} {k : Nat} {f : Addr} {x qual : Str} {params : Arguments} {body : List Stmt} {scope : Scope} {dvs : List V} {kws : List (Str × V)} {fd : FuncData} {N ps : List Str} {m : MGn} (F : FunD C.K x qual params body scope dvs kws f fd) (S : GScope N ps scope)
    (hb : ∀ (cdv : Value) (A : Around) (outer : List PySem.Env) (s : Shared) (H : Hp) (ex : List Addr), RoomG k (A.deeper (envOfC qual scope s.heap.objs.size f cdv)) → GPSs (gxOf P w C.K mg base N qual scope f cdv A outer s H ex) body (tGn C m)) : GFnP P w C.K mg base (k + 1) f fd ps (spG C ps.length (runG N.length m)) :=
  gfnP_of F S (fun vs H ys Q h => h.1) fun cdv A outer s H vs ys Q ex room ⟨hl, ρ, hd, ds, acc, sh, r, ra, p⟩ => ⟨_, hb cdv A outer s H ex room, ρ, _, hd, acc, start_env r, sh, ra, by
    unfold runG at p
    cases hm : m (startE N.length ds) hd acc with
    | none => rw [hm] at p; exact p
    | some q =>
      obtain ⟨fl, env', hd', acc'⟩ := q
      rw [hm] at p
      cases fl with
      | nx => exact fun ρ' H' σ' ys' x s e r l => p ρ' H' ys' x s r
      | ret d => exact p.elim
      | exc y => exact p.elim
      | bk => exact p.elim
      | ct => exact p.elim⟩
end
end RP


set_option maxHeartbeats 1000000
/-! EvRT: list(f(..)) in the evaluator; loud defs in the evaluator. -/
namespace RP
open PySem PySem.Spec PyProof.Rows L2 GenW EV
/-- a loud def: its body, run at its parameters' values; exceptions do not come -/
def runL (n : Nat) (m : MS) : FunT := fun ds hd => match m (startE n ds) hd with
  | some (.nx, _, h) => .ok .non h
  | some (.ret d, _, h) => .ok d h
  | _ => .bad
section
variable {C : EV.Ctx} {P : Program} {w : World} {mg : Str → Option Value} {base : Heap} {k : Nat} {f : Addr} {x qual : Str} {params : Arguments} {body : List Stmt} {scope : Scope} {dvs : List V} {kws : List (Str × V)} {fd : FuncData} {N ps : List Str} {m : MS}
theorem fn_soundP (F : FunD C.K x qual params body scope dvs kws f fd) (S : FnScope N ps scope)
    (hb : ∀ (cdv : Value) (A : Around) (outer : List PySem.Env) (s : Shared) (H : Hp), RoomG k (A.deeper (envOfC qual scope s.heap.objs.size f cdv)) → PSsP (gxOf P w C.K mg base N qual scope f cdv A outer s H []) body (tS C W0 m)) : FnGP P w C.K mg base (k + 1) f fd ps (spM C ps.length (runL N.length m)) :=
  fnGP_of F S (fun vs H Q E h => h.1) fun cdv A outer s H vs Q E room ⟨hl, ρ, hd, ds, sh, r, p⟩ => ⟨_, hb cdv A outer s H room, ρ, _, hd, start_env r, sh, by
    unfold runL at p
    cases hm : m (startE N.length ds) hd with
    | none => rw [hm] at p; exact p
    | some q =>
      obtain ⟨fl, env', hd'⟩ := q
      rw [hm] at p
      cases fl with
      | nx => exact fun ρ' H' σ' x s e l => p ρ' H' .non x s rel_non
      | ret d => exact fun ρ' H' σ' x s e l v r => p ρ' H' v x s r
      | exc y => exact p.elim
      | bk => exact p.elim
      | ct => exact p.elim⟩
end
theorem evp_list {X : Cx} {C : EV.Ctx} {k n : Nat} {f : Addr} {fd : FuncData} {ps : List Str} {F : GenT} {x nm : Str} {q p pos pos' : Pos} {e : Expr} {es : List Expr} {as : M (List D)} {m : Bool} (G : GFnP X.prog X.w X.K X.mg X.base k f fd ps (spG C n F)) (hr : RoomG (k + 2) X.A) (hg : Gl X x) (hm : X.mg x = some (.ref f)) (hk : PySem.W.keepIn X.K (.ref f) = true) (hb : Binds X.K fd ps [])
    (ha : PA X (e :: es) (tL C W0 as)) (hdb : (x == ("__debug__" : Str)) = false) (hs : noStars (e :: es) = true) (hgl : Gl X nm) (hmg : X.mg nm = none) (hv : bootBuiltins nm = some (.type "list")) (hnm : nm ≠ "__name__") (hdl : (nm == ("__debug__" : Str)) = false) :
    PEP X (.Call (.Name nm p) [.Call (.Name x q) (e :: es) [] pos'] [] pos) (tE C W0 (mlistG m F n as)) :=
  weakEP (pep_list (pgen_callP G (hr.weak (by omega)) hg hm hk hb .nil ha hdb hs) hr hgl hmg hv hnm hdl rfl) fun σ H Q ⟨ρ, env, hd, er, sh, p⟩ => seqL er sh p fun vs H1 ρ1 hd1 ds x1 er1 sh1 r1 p1 => by
    split at p1
    · rename_i hl
      refine ⟨by rw [List.append_nil, ← r1.length]; exact hl, ρ1, hd1, ds, [], sh1, by rw [List.append_nil]; exact r1, RelL.nil, ?_⟩
      cases hF : F ds hd1 [] with
      | none => rw [hF] at p1; exact p1.elim
      | some q2 =>
        obtain ⟨acc, h2⟩ := q2
        rw [hF] at p1
        intro ρ2 H2 ys x2 s2 r2 pp hpp
        dsimp only at p1
        have p2 := PostX.fin s2 (p1.ext x2)
        split at p2
        · rename_i hz
          exact p2 pp ys hz hpp r2
        · exact p2.elim
    · exact p1.elim
end RP


set_option maxHeartbeats 1000000
/-! EvRU: the law's own call over Runs+. -/
namespace RP
open PySem PySem.Spec PyProof.Rows L2 GenW EV
section
variable {P : Program} {w : World} {K : PySem.W.Frag} {mg mb : Str → Option Value} {k : Nat} {fa a : Addr} {fd : FuncData} {x : Str} {sp : Sp} {s₁ : Shared} {vs : List Value} {ns : List Int}
theorem law_callP (KX : K.In s₁.heap) (hns : s₁.heap.Ns mainGlobals mg) (hb : s₁.heap.Ns builtinsNs mb) (hbb : ∀ x : Str, x ≠ "__name__" → mb x = bootBuiltins x) (hlim : s₁.heap.NoLimit) (hg : s₁.gens = #[])
    (ha : s₁.heap.get? a = some { cls := .type "list", data := .seq vs.toArray }) (hi : IntsAre vs ns) (hl : ns.length ≤ sizeLine) (hr : RoomG k callerA)
    (F : ∀ base : Heap, K.In base → base.Ns mainGlobals mg → FnGP P w K mg base k fa fd [x] sp) (hbind : ∀ (s : Shared) (u : Value), BindsTo s fd ⟨[u], []⟩ [(x, u)])
    (hsp : ∀ H : Hp, SqL K H a (ns.map V.int) → sp [.ref a] H (fun v _ => v = .bl true) fun _ _ _ => False) :
    codeAnyP (model P w) callerA (.call (.ref fa) ⟨[.ref a], []⟩) (fun r s' => r = .ok (.ret (.bool true)) ∧ OldK s₁.heap s'.heap ∧ s'.os = s₁.os ∧ AllBare s'.gens) s₁ := by
  have values := vals_ints hi
  have size := hi.length
  let o : Obj := { cls := .type "list", data := .seq vs.toArray }
  let H := scrH K a o ns
  have cases_ : ∀ b u, H b = some u → b = a ∧ K.lookup a = none ∧ u = .frz o (.lst (ns.map V.int)) := fun b u e => by
    have e' : (if b = a then (match K.lookup a with | some _ => none | none => some (HO.frz o (.lst (ns.map V.int)))) else none) = some u := e
    split at e'
    · split at e'
      · cases e'
      · rename_i q
        cases e'
        exact ⟨by assumption, q, rfl⟩
    · cases e'
  have other : ∀ b ob es ep, s₁.heap.get? b = some ob → ob.data = .dict es ep → H b = none := fun b ob es ep e d => by
    cases q : H b with
    | none => rfl
    | some u =>
      obtain ⟨rfl, -, -⟩ := cases_ b u q
      rw [ha] at e; cases e; cases (show Data.seq vs.toArray _ = Data.dict es ep from d)
  have names : ∀ {b : Addr} {m : Str → Option Value}, s₁.heap.Ns b m → (hidT s₁.heap H).Ns b m := fun {b m} ⟨ob, es, ep, e, d, r⟩ => ⟨ob, es, ep, hidT_get e (other b ob es ep e d), d, r⟩
  have inK : K.In (hidT s₁.heap H) := fun b ob e => hidT_get (KX b ob e) (by
    cases q : H b with
    | none => rfl
    | some u =>
      obtain ⟨rfl, n, -⟩ := cases_ b u q
      rw [n] at e; cases e)
  have script : SqL K H a (ns.map V.int) := by
    cases q : K.lookup a with
    | none => exact .inl (.inr ⟨o, by show (if a = a then _ else _) = _; rw [if_pos rfl, q]⟩)
    | some ob =>
      have e := KX a ob q
      rw [ha] at e; cases e
      exact .inr ⟨_, vs.toArray, _, q, rfl, rfl, rfl, by rw [List.size_toArray, size]; exact hl, by simpa using values⟩
  have okH : HOk P w H s₁.heap := fun b u e => by
    obtain ⟨rfl, -, rfl⟩ := cases_ b u e
    exact ⟨ha, by rw [List.length_map]; exact hl, vs, _, values, ha⟩
  have room0 : Env0 P w K mg (hidT s₁.heap H) callerA [] s₁ H :=
    ⟨rfl, ⟨inK, names hns, ⟨mb, names hb, hbb⟩, hlim.imp fun mc h => ⟨names h.1, h.2⟩⟩, fun b ob e => of_hidT e, Nat.le_of_eq (hidT_size _ _), trivial, (fun b hb => nomatch hb), okH, .of_eq hg⟩
  refine code_mono ((F _ inK (names hns)).runs callerA [] s₁ H _ [.ref a] [.ref a] _ _ hr room0 (hbind s₁ (.ref a)) (.cons rfl .nil) (hsp H script)) fun r s' h => ?_
  rcases r with e | fl
  · exact False.elim h
  obtain ⟨u, rfl⟩ : ∃ u, fl = .ret u := by
    cases fl with
    | ret u => exact ⟨u, rfl⟩
    | _ => exact False.elim h
  obtain ⟨v, H', os, bare, un, hok', rv, rfl⟩ := h
  obtain rfl : u = Value.bool true := rv
  refine ⟨rfl, OldK.of_keep fun b ob e => ?_, os, bare⟩
  cases q : H b with
  | none => exact un.keep b ob e q (fun z => nomatch z) (fun z => nomatch z)
  | some u =>
    obtain ⟨rfl, -, rfl⟩ := cases_ b u q
    obtain ⟨e2, _⟩ := hok' b _ (un.frzs b _ _ q)
    rw [ha] at e; cases e
    exact e2
theorem walk_P {l : PySem.W.OpenLaw} {n : Nat} {q : Program} {loose : List Str} {XP : (Str → Option Value) → Heap → Prop} {YP : World → Heap → Prop} {d : DefRec} {K : Params → PySem.W.Frag} {F : World → FunT}
    (hn : l.most = some n) (hn2 : n ≤ sizeLine) (hdf : d.params.defaults = []) (hr : Room k callerA) (hY : ∀ (w : World) (h : Heap), YP w h → (K w.params).In h)
    (G : ∀ (w : World) (mg : Str → Option Value) (fa : Addr) (h : Heap), (K w.params).In h → h.Ns mainGlobals mg → mg d.name = some (.ref fa) → ∃ (fd : FuncData) (C : EV.Ctx), C.K = K w.params ∧ (∀ (s : Shared) (u : Value), BindsTo s fd ⟨[u], []⟩ [(x, u)]) ∧
        ∀ base : Heap, (K w.params).In base → base.Ns mainGlobals mg → FnGP l.prog w (K w.params) mg base k fa fd [x] (spM C 1 (F w)))
    (hF : ∀ (w : World) (ns : List Int), ns.length ≤ n → ∃ h, F w [.scr ns] [] = .ok (.bl true) h) : WalkP q loose XP YP l.row.toRowW d [] := by
  intro w s₀ s₁ mg mb Gr Y fa o pm cd doc dV kV ho hd hcd hD hmg hg args vals as hpre hlay hrd hwl hlo
  obtain rfl : dV = .none := PySem.W.Dflts.none hD hdf
  obtain rfl : kV = .none := PySem.W.Dflts.noKw hD
  obtain ⟨a, vs, ns, rfl, rfl, hobj, hints, hlen⟩ := Att.script_of hn hpre hwl
  obtain ⟨fd, C, hK, hb, hG⟩ := G w mg fa _ (hY w _ Y) Gr.T.g hmg
  refine callP (code_mono (law_callP (hY w _ Y) Gr.T.g Gr.T.b Gr.T.builtins Gr.T.nolimit hg hobj hints (Nat.le_trans hlen hn2) ⟨hr, rfl⟩ hG hb fun H hS => ?_) fun r s' hq => ?_)
  · obtain ⟨h, e⟩ := hF w ns hlen
    refine ⟨rfl, ⟨[], []⟩, [], [.scr ns], ⟨rfl, (fun m n a z => nomatch z), (fun n a z => nomatch z), (fun n o z => nomatch z), (fun a z => nomatch z), (fun n a z => nomatch z)⟩, ?_, ?_⟩
    · refine RelL.cons ?_ RelL.nil
      simp only [Rel]
      refine ⟨a, rfl, ?_, Nat.le_trans hlen hn2⟩
      rcases hS with hS | hS
      · exact .inl ⟨hS, (fun n z => nomatch z), (fun z => nomatch z)⟩
      · exact .inr (hK ▸ hS)
    · rw [e]
      exact fun ρ' H' v x s r => of_bl r
  · obtain ⟨rfl, h2, h3, h4⟩ := hq
    exact ⟨.inl ⟨.bool true, .bool true, [], rfl, fun _ => rfl, .bool true, Att.post_true l _, fun _ => ⟨List.Pairwise.nil, fun _ hm => (nomatch hm)⟩⟩, h2, h3, h4⟩
end
end RP


set_option maxHeartbeats 1000000
/-! EvRV: generators and loud defs in the shape that the printed proofs use; more loud rules. -/
namespace RP
open PySem PySem.Spec PyProof.Rows L2 GenW EV

/-- a generator def of the top -/
structure CallGen (C : EV.Ctx) (P : Program) (w : World) (mg : Str → Option Value) (base : Heap) (k : Nat) (x : Str) (n : Nat) (F : GenT) : Prop where
  ex : ∃ (f : Addr) (fd : FuncData) (ps : List Str), mg x = some (.ref f) ∧ PySem.W.keepIn C.K (.ref f) = true ∧ GFnP P w C.K mg base k f fd ps (spG C n F) ∧ Binds C.K fd ps []
/-- a loud def of the top; dd: its defaults that fill up -/
structure CallLd (C : EV.Ctx) (P : Program) (w : World) (mg : Str → Option Value) (base : Heap) (k : Nat) (x : Str) (n : Nat) (F : FunT) (dd : List D) : Prop where
  ex : ∃ (f : Addr) (fd : FuncData) (ps : List Str) (dvs : List V) (ds : List Value), mg x = some (.ref f) ∧ PySem.W.keepIn C.K (.ref f) = true ∧ FnGP P w C.K mg base k f fd ps (spM C n F) ∧ Binds C.K fd ps ds ∧ Vals dvs ds ∧ ∀ ρ H, RelL C ρ H dd dvs
theorem FnGP.weak {P : Program} {w : World} {K : PySem.W.Frag} {mg : Str → Option Value} {base : Heap} {j k : Nat} {f : Addr} {fd : FuncData} {ps : List Str} {sp : Sp} (F : FnGP P w K mg base j f fd ps sp) (h : j ≤ k) : FnGP P w K mg base k f fd ps sp :=
  ⟨F.many, fun A outer s H args us vs Q E hr => F.runs A outer s H args us vs Q E (hr.weak h)⟩
/-- stuck: nothing is promised -/
theorem gfn_bad {C : EV.Ctx} {K : PySem.W.Frag} {P : Program} {w : World} {mg : Str → Option Value} {base : Heap} {k n : Nat} {f : Addr} {fd : FuncData} {ps : List Str} {F : GenT} (hF : F = fun _ _ _ => none) (hn : ps.length = n) : GFnP P w K mg base k f fd ps (spG C n F) := by
  subst hF
  exact ⟨fun vs H ys Q h => h.1.trans hn.symm, fun A outer s H args us vs ys Q _ _ _ _ h => by obtain ⟨_, _, _, _, _, _, _, _, p⟩ := h; exact p.elim⟩
theorem fnp_bad {C : EV.Ctx} {K : PySem.W.Frag} {P : Program} {w : World} {mg : Str → Option Value} {base : Heap} {k n : Nat} {f : Addr} {fd : FuncData} {ps : List Str} {F : FunT} (hF : F = fun _ _ => .bad) (hn : ps.length = n) : FnGP P w K mg base k f fd ps (spM C n F) := by
  subst hF
  exact ⟨fun vs H Q E h => h.1.trans hn.symm, fun A outer s H args us vs Q E _ _ _ _ h => by obtain ⟨_, _, _, _, _, _, p⟩ := h; exact p.elim⟩
theorem looks_b {M : Model} {h : Heap} {id : String} : PySem.W.Looks M h (keeperOf (.builtin id)) .machine := PySem.W.Looks.of_pure rfl
theorem looks_t {M : Model} {h : Heap} {id : String} : PySem.W.Looks M h (keeperOf (.type id)) .machine := PySem.W.Looks.of_pure rfl
/-! ### calls, as printed -/
section
variable {X : Cx} {C : EV.Ctx} {pos yp p q : Pos} {x : Str} {e : Expr} {es : List Expr} {as ms : M (List D)} {j k n : Nat} {F : GenT} {FL : FunT} {dd : List D}
theorem evg_fromN (hK : X.K = C.K) (c : CallGen C X.prog X.w X.mg X.base j x n F) (hr : RoomG k X.A) (hj : decide (j + 1 ≤ k) = true) (hg : X.env.kindOf x = some .globalImplicit) (ha : PA X (e :: es) (tL C W0 as)) (hdb : (x == ("__debug__" : Str)) = false) (hs : noStars (e :: es) = true) (hi : interactive X.env = false) :
    GPS X (.Expr (.YieldFrom (.Call (.Name x q) (e :: es) [] yp) pos) pos) (tGn C (gFrom F n as)) := by
  obtain ⟨f, fd, ps, e1, e2, G, b⟩ := c.ex
  rw [← hK] at e2 G b
  exact evg_from G (hr.weak (of_decide_eq_true hj)) hg e1 e2 b ha hdb hs hi
theorem evp_listN {m : Bool} {pos' : Pos} (hK : X.K = C.K) (c : CallGen C X.prog X.w X.mg X.base j x n F) (hr : RoomG k X.A) (hj : decide (j + 2 ≤ k) = true) (hm : X.mg "list" = none) (hgl : X.env.kindOf "list" = some .globalImplicit) (hg : X.env.kindOf x = some .globalImplicit) (ha : PA X (e :: es) (tL C W0 as)) (hdb : (x == ("__debug__" : Str)) = false) (hs : noStars (e :: es) = true) :
    PEP X (.Call (.Name "list" p) [.Call (.Name x q) (e :: es) [] pos'] [] pos) (tE C W0 (mlistG m F n as)) := by
  obtain ⟨f, fd, ps, e1, e2, G, b⟩ := c.ex
  rw [← hK] at e2 G b
  exact evp_list G (hr.weak (of_decide_eq_true hj)) hg e1 e2 b ha hdb hs hgl hm bt_list (by decide) rfl
theorem evp_user (hK : X.K = C.K) (c : CallLd C X.prog X.w X.mg X.base j x n FL dd) (hr : RoomG k X.A) (hj : decide (j ≤ k) = true) (hg : X.env.kindOf x = some .globalImplicit) (ha : PAP X (e :: es) (tL C W0 ms))
    (hd : (x == ("__debug__" : Str)) = false) (hs : noStars (e :: es) = true) : PEP X (.Call (.Name x p) (e :: es) [] pos) (tE C W0 (mcall FL n dd ms)) := by
  obtain ⟨f, fd, ps, dvs, ds, e1, e2, G, b, v, r⟩ := c.ex
  rw [← hK] at e2 G b
  exact evp_call G (hr.weak (of_decide_eq_true hj)) hg e1 e2 b v r ha hd hs
end

/-! ### tests -/
structure PWP (X : Cx) (e : Expr) (t : TT) : Prop where
  run : ∀ (whole : Sem Value) (pins : List (Addr × Obj)) (s : Shared) (σ : L2.St) (H : Hp) (Q : Bool → Hp → Prop), Inv X pins σ H s → t σ H Q → wpAnyP (model X.prog X.w) X.A (isTrue e X.env whole) (TP X pins σ Q) X.xe s
section
variable {X : Cx} {C : EV.Ctx} {pos p : Pos} {a b c e : Expr} {rest es : List Expr} {ma mb mc' : M D} {ms : M (List D)} {ta tb : M Bool} {tA tB' : TT} {te : TE}
theorem PWP.pt (h : PWP X e tA) : PTP X e tA := ⟨fun pins s σ H Q I q => h.run _ pins s σ H Q I q⟩
theorem pwp_of (h : PW X e tA) : PWP X e tA := ⟨fun wh pins s σ H Q I q => any_of (h.run wh pins s σ H Q I q)⟩
theorem weakTP {t t' : TT} (h : PTP X e t) (w : ∀ σ H Q, t' σ H Q → t σ H Q) : PTP X e t' := ⟨fun pins s σ H Q I q => h.run pins s σ H Q I (w σ H Q q)⟩
theorem weakWP {t t' : TT} (h : PWP X e t) (w : ∀ σ H Q, t' σ H Q → t σ H Q) : PWP X e t' := ⟨fun wh pins s σ H Q I q => h.run wh pins s σ H Q I (w σ H Q q)⟩
theorem ptp_cmp {op : CmpOp} {r : R2} {tb' : TE} (ho : OpR X (compareOp op) r) (ha : PEP X a te) (hb : PEP X b tb') (hm : behindInMarks op b = false) : PTP X (.Compare a [op] [b] pos) (tTest (fun σ H Q => te σ H fun x H1 => tb' σ H1 fun y H2 => r x y H2 Q)) := by
  refine ⟨fun pins s σ H Q I hq => ?_⟩
  rw [isTrue_Compare1, markedBehindIn_of_false hm]
  refine bindP (thnP (ha.run pins s σ H _ I hq) fun v s1 ⟨x, H1, I1, r1, q1⟩ => bindP (holdingP (thnP (hb.run pins s1 σ H1 _ I1 q1) fun u s2 ⟨y, H2, I2, r2, q2⟩ => bindP (standP (bindP (any_of (wpAny_operateT (thn (ho pins s2 σ H2 x y v u _ I2 r1 r2 q2) fun c s3 ⟨z, H3, I3, r3, k, e, q3⟩ => ?_))))))))
  subst e
  cases r3
  exact holdingP (any_of (wpAny_truthy_bool ⟨H3, I3, q3⟩))
theorem pep_op2 {op : CmpOp} {r : R2} {tb' : TE} (ho : OpR X (compareOp op) r) (ha : PEP X a te) (hb : PEP X b tb') (hm : behindInMarks op b = false) : PEP X (.Compare a [op] [b] pos) (fun σ H Q => te σ H fun x H1 => tb' σ H1 fun y H2 => r x y H2 Q) := by
  refine ⟨fun pins s σ H Q I hq => ?_⟩
  rw [eval_Compare1, markedBehindIn_of_false hm]
  exact bindP (thnP (ha.run pins s σ H _ I hq) fun v s1 ⟨x, H1, I1, r1, q1⟩ => bindP (holdingP (thnP (hb.run pins s1 σ H1 _ I1 q1) fun u s2 ⟨y, H2, I2, r2, q2⟩ => bindP (standP (any_of (wpAny_operateT (ho pins s2 σ H2 x y v u Q I2 r1 r2 q2)))))))
theorem pep_bin {op : Operator} {r : R2} {tb' : TE} (ho : OpR X (binaryOp op) r) (ha : PEP X a te) (hb : PEP X b tb') : PEP X (.BinOp a op b pos) (fun σ H Q => te σ H fun x H1 => tb' σ H1 fun y H2 => r x y H2 Q) := by
  refine ⟨fun pins s σ H Q I hq => ?_⟩
  rw [eval_BinOp]
  exact bindP (thnP (ha.run pins s σ H _ I hq) fun v s1 ⟨x, H1, I1, r1, q1⟩ => bindP (holdingP (thnP (hb.run pins s1 σ H1 _ I1 q1) fun u s2 ⟨y, H2, I2, r2, q2⟩ => bindP (standP (any_of (wpAny_operateT (ho pins s2 σ H2 x y v u Q I2 r1 r2 q2)))))))
theorem ptp_truth (ha : PEP X a te) (he : ∀ whole, isTrue a X.env whole = (do let v ← whole; standAt a.pos; holding [v] (truthy v))) : PTP X a (fun σ H Q => te σ H fun x H' => ∃ k, TruV X.K x H' k ∧ Q k H') := by
  refine ⟨fun pins s σ H Q I h => ?_⟩
  rw [he]
  exact bindP (thnP (ha.run pins s σ H _ I h) fun v s1 ⟨x, H1, I1, r1, q1⟩ => bindP (standP (holdingP (any_of (tru_ok pins s1 σ H1 x v Q I1 r1 q1)))))
theorem ptp_not (ha : PTP X a tA) : PTP X (.UnaryOp .Not a pos) (tNot tA) := by
  refine ⟨fun pins s σ H Q I h => ?_⟩
  show wpAnyP _ _ (do return !(← isTrue a X.env (eval a X.env))) _ _ s
  exact bindP (thnP (ha.run pins s σ H (fun c H1 => Q (!c) H1) I h) fun c s' q => pureP q)
theorem pwp_and1 (ha : PTP X a tA) : PWP X (.BoolOp .And [a] pos) tA := by
  refine ⟨fun wh pins s σ H Q I h => ?_⟩
  show wpAnyP _ _ (do
    match BoolOp.And, ← isTrue a X.env (eval a X.env) with
    | .And, false => pure false
    | .Or, true => pure true
    | _, _ => allTrue .And [] X.env) _ _ s
  refine bindP (thnP (ha.run pins s σ H Q I h) fun c s' q => ?_)
  cases c with
  | true => exact pureP q
  | false => exact pureP q
theorem pwp_or1 (ha : PTP X a tA) : PWP X (.BoolOp .Or [a] pos) tA := by
  refine ⟨fun wh pins s σ H Q I h => ?_⟩
  show wpAnyP _ _ (do
    match BoolOp.Or, ← isTrue a X.env (eval a X.env) with
    | .And, false => pure false
    | .Or, true => pure true
    | _, _ => allTrue .Or [] X.env) _ _ s
  refine bindP (thnP (ha.run pins s σ H Q I h) fun c s' q => ?_)
  cases c with
  | true => exact pureP q
  | false => exact pureP q
theorem pwp_and (ha : PTP X a tA) (hb : PWP X (.BoolOp .And (b :: rest) pos) tB') : PWP X (.BoolOp .And (a :: b :: rest) pos) (tAnd tA tB') := by
  refine ⟨fun wh pins s σ H Q I h => ?_⟩
  show wpAnyP _ _ (do
    match BoolOp.And, ← isTrue a X.env (eval a X.env) with
    | .And, false => pure false
    | .Or, true => pure true
    | _, _ => allTrue .And (b :: rest) X.env) _ _ s
  refine bindP (thnP (ha.run pins s σ H _ I h) fun c s' ⟨H1, I1, q⟩ => ?_)
  cases c with
  | true => exact hb.run wh pins s' σ H1 Q I1 q
  | false => exact pureP ⟨H1, I1, q⟩
theorem pwp_or (ha : PTP X a tA) (hb : PWP X (.BoolOp .Or (b :: rest) pos) tB') : PWP X (.BoolOp .Or (a :: b :: rest) pos) (tOr tA tB') := by
  refine ⟨fun wh pins s σ H Q I h => ?_⟩
  show wpAnyP _ _ (do
    match BoolOp.Or, ← isTrue a X.env (eval a X.env) with
    | .And, false => pure false
    | .Or, true => pure true
    | _, _ => allTrue .Or (b :: rest) X.env) _ _ s
  refine bindP (thnP (ha.run pins s σ H _ I h) fun c s' ⟨H1, I1, q⟩ => ?_)
  cases c with
  | true => exact pureP ⟨H1, I1, q⟩
  | false => exact hb.run wh pins s' σ H1 Q I1 q
variable {W : WX}
theorem evtp_cmp {op : CmpOp} {f : Op2} (ho : OpR X (compareOp op) (rO2 C f)) (ha : PEP X a (tE C W ma)) (hb : PEP X b (tE C W mb)) (hm : behindInMarks op b = false) : PTP X (.Compare a [op] [b] pos) (tT C W (mbl (mop2 false f ma mb))) :=
  weakTP (ptp_cmp ho ha hb hm) fun σ H Q h => seq_op2 (bl_of h)
theorem evp_cmp2 {op : CmpOp} {m : Bool} {f : Op2} (ho : OpR X (compareOp op) (rO2 C f)) (ha : PEP X a (tE C W ma)) (hb : PEP X b (tE C W mb)) (hm : behindInMarks op b = false) : PEP X (.Compare a [op] [b] pos) (tE C W (mop2 m f ma mb)) :=
  weakEP (pep_op2 ho ha hb hm) fun _ _ _ h => seq_op2 h
theorem evp_bin {op : Operator} {m : Bool} {f : Op2} (ho : OpR X (binaryOp op) (rO2 C f)) (ha : PEP X a (tE C W ma)) (hb : PEP X b (tE C W mb)) : PEP X (.BinOp a op b pos) (tE C W (mop2 m f ma mb)) :=
  weakEP (pep_bin ho ha hb) fun _ _ _ h => seq_op2 h
theorem evtp_tru (hK : X.K = C.K) (ha : PEP X e (tE C W ma)) (hp : plainTest e = true) : PTP X e (tT C W (mtru ma)) :=
  weakTP (ptp_truth ha (isTrue_of hp)) fun σ H Q ⟨ρ, env, hd, er, sh, p⟩ => seqE er sh p fun v H1 ρ1 hd1 d x er1 sh1 r1 p1 => by
    split at p1
    · rename_i b e1
      exact ⟨b, truth_rel hK sh1 r1 e1, p1.here sh1 rfl⟩
    · exact p1.elim
theorem evtp_not (ha : PTP X a (tT C W ta)) : PTP X (.UnaryOp .Not a pos) (tT C W (mnotT ta)) :=
  weakTP (ptp_not ha) fun σ H Q ⟨ρ, env, hd, er, sh, p⟩ => seqT er sh p fun k H1 ρ1 hd1 x er1 sh1 p1 => p1.here sh1 rfl
theorem evtp_and (ha : PTP X a (tT C W ta)) (hb : PWP X (.BoolOp .And (b :: rest) pos) (tT C W tb)) : PWP X (.BoolOp .And (a :: b :: rest) pos) (tT C W (mandT ta tb)) :=
  weakWP (pwp_and ha hb) fun σ H Q ⟨ρ, env, hd, er, sh, p⟩ => seqT er sh p fun k H1 ρ1 hd1 x er1 sh1 p1 => by
    cases k with
    | true => exact ⟨ρ1, env, hd1, er1, sh1, p1⟩
    | false => exact p1.here sh1 rfl
theorem evtp_or (ha : PTP X a (tT C W ta)) (hb : PWP X (.BoolOp .Or (b :: rest) pos) (tT C W tb)) : PWP X (.BoolOp .Or (a :: b :: rest) pos) (tT C W (morT ta tb)) :=
  weakWP (pwp_or ha hb) fun σ H Q ⟨ρ, env, hd, er, sh, p⟩ => seqT er sh p fun k H1 ρ1 hd1 x er1 sh1 p1 => by
    cases k with
    | true => exact p1.here sh1 rfl
    | false => exact ⟨ρ1, env, hd1, er1, sh1, p1⟩
theorem evlp_of (h : PA X es (tL C W ms)) : PAP X es (tL C W ms) := pap_of h
end

/-! ### for, over a quiet iterable, with a loud body -/
section
variable {prog : Program} {w : World} {A : Around} {E : Value → Shared → Prop} {R : Result → Shared → Prop} {s : Shared} {env : PySem.Env}
theorem notedP {α : Type} {m : Sem α} {Q : α → Shared → Prop} (h : wpAnyP (model prog w) A m Q (notedBy (model prog w) A env E) s) : wpAnyP (model prog w) A (m.onRaise fun x => do noteFrame x env; theTreesLotGoes x) Q E s :=
  onRaiseP (monoP h (fun _ _ q => q) fun _ _ hx => any_of (wpAny_bind (wpAny_mono hx (fun _ _ e => wpAny_theTreesLotGoes e) fun _ _ e => e)))
theorem runOwnP {c : Code} {Q : PySem.Flow → Shared → Prop} (hc : codeAnyP (model prog w) A c (fun r s' => match r with | .ok f => Q f s' | .error e => cameBackBy (model prog w) A env E e s') s) : wpAnyP (model prog w) A (runOwn c env none) Q E s := by
  unfold runOwn
  exact onRaiseP (monoP (runP (E := cameBackBy (model prog w) A env E) hc) (fun _ _ q => q) fun _ _ q => any_of q)
theorem forLoopP {tg : Expr} {it : Value} {body : List Stmt} (I : Nat → Shared → Prop)
    (turn : ∀ n s, I n s → wpAny (model prog w) A (pyNext it) (fun r s₁ => match r with
      | none => R (.ok .next) s₁
      | some v => wpAny (model prog w) A (letOwnedTupleGo tg it v) (fun _ s₁' => wpAny (model prog w) A (assign tg env v) (fun _ s₂ => wpAnyP (model prog w) A (execs body env) (fun f s₃ => match f with
          | .next | .cont => ∃ m, m < n ∧ I m s₃
          | .brk => R (.ok .next) s₃
          | .ret v => R (.ok (.ret v)) s₃) (notedBy (model prog w) A env fun e s' => R (.error e) s') s₂) (notedBy (model prog w) A env fun e s' => R (.error e) s') s₁') (notedBy (model prog w) A env fun e s' => R (.error e) s') s₁) (notedBy (model prog w) A env fun e s' => R (.error e) s') s) :
    ∀ (n : Nat) (s : Shared), I n s → codeAnyP (model prog w) A (.forLoop tg it body [] env) R s := by
  intro n
  induction n using Nat.strongRecOn with
  | ind n ih =>
    intro s hI
    refine code_tree ?_
    show wpAnyP _ A ((forTurn tg it body [] env).onRaise (fun x => do noteFrame x env; theTreesLotGoes x)) _ _ s
    refine notedP ?_
    unfold forTurn
    refine bindP (standP (bindP (onRaiseP (any_of (wpAny_mono (turn n s hI) (fun r s₁ h₁ => ?_) fun _ _ h' => any_of (wpAny_standAt h'))))))
    cases r with
    | none => exact pureP ⟨rfl, code_of (codeAny_block (wpAny_execs_nil h₁))⟩
    | some v =>
      refine bindP (any_of (wpAny_mono h₁ (fun _ s₁' h₁' => ?_) fun _ _ z => z))
      refine bindP (any_of (wpAny_mono h₁' (fun _ s₂ h₂ => ?_) fun _ _ z => z))
      refine bindP (monoP h₂ (fun f s₃ h₃ => ?_) fun _ _ z => z)
      cases f with
      | next => obtain ⟨m, hm, hI'⟩ := h₃; exact pureP ⟨rfl, ih m hm s₃ hI'⟩
      | cont => obtain ⟨m, hm, hI'⟩ := h₃; exact pureP ⟨rfl, ih m hm s₃ hI'⟩
      | brk => exact pureP h₃
      | ret v => exact pureP h₃
end
section
variable {X : Cx} {C : EV.Ctx} {W : WX} {tg iter : Expr} {body : List Stmt} {pos : Pos} {wi : TI} {g : TG} {tb : TS}
theorem psp_for (hp : PassesOwn (model X.prog X.w) X.A X.env X.xe) (hc : X.calm = true) (hi : PI X tg iter wi) (hg : PG X tg g) (hb : PSsP X body tb) (hs : ∀ x, foldedSetIterable iter X.env x = pure x) : PSP X (.For tg iter body [] pos) (tFor wi g tb) := by
  refine ⟨fun pins s σ H D I h => ?_⟩
  rw [exec_For]
  refine bindP (standP (bindP (any_of (wpAny_mono (hi.run _ s σ H _ I h) (fun v s1 h1 => ?_) fun _ _ z => z))))
  rw [hs]
  refine bindP (pureP (bindP (standP (bindP (holdingP (any_of (wpAny_mono h1 (fun itv s2 h2 => ?_) fun _ _ z => z)))))))
  obtain ⟨it, fp, tn, J, H2, e, I2, T, st2, f2, W, ⟨m0, w0⟩, turn⟩ := h2
  subst e
  have stat : ∀ {H' : Hp}, (∀ b ∈ fp, H' b = none) → ∀ b ∈ fp, FpOk X pins H' b := fun hn b hb => ⟨hn b hb, (f2 b hb).2⟩
  refine runOwnP (forLoopP (fun n s' => ∃ i σ' H', Inv X pins σ' H' s' ∧ tn i s'.heap ∧ (∀ b ∈ fp, H' b = none) ∧ W i n σ' H') ?_ m0 s2 ⟨0, σ, H2, I2, st2, fun b hb => (f2 b hb).1, w0⟩)
  rintro n s3 ⟨i, σ3, H3, I3, st3, fr3, w3⟩
  rcases turn i n σ3 H3 w3 with ⟨stop, qn⟩ | ⟨go, N, hN, step⟩
  · refine wpAny_passesOwn hp (thn (T.done X rfl rfl rfl hc i pins s3 σ3 H3 X.xe I3 (stat fr3) st3 stop) fun r s4 ⟨hr, I4⟩ => ?_)
    subst hr
    exact ⟨σ3, H3, I4, qn⟩
  · refine wpAny_passesOwn hp (thn (T.item X rfl rfl rfl hc i pins s3 σ3 H3 X.xe I3 (stat fr3) st3 go) fun r s4 ⟨u, hr, h4⟩ => ?_)
    subst hr
    refine wpAny_passesOwn hp (thn h4 fun _ s5 ⟨x, H5, I5, r5, y5, st5, fr5⟩ => ?_)
    have I5' := I5.pinned (stat fr5) (T.obj _ _ st5)
    refine wpAny_passesOwn hp (thn (hg.run _ s5 σ3 H5 x u _ I5' r5 (step x H5 y5)) fun _ s6 ⟨σ6, H6, I6, q6⟩ => ?_)
    refine monoP (hb.run _ s6 σ6 H6 _ I6 q6) (fun f s7 q7 => ?_) hp
    have again : ∀ {σ7 : L2.St} {H7 : Hp}, Inv X (pins ++ pinsAt fp s5.heap) σ7 H7 s7 → N σ7 H7 → ∃ m, m < n ∧ ∃ i σ' H', Inv X pins σ' H' s7 ∧ tn i s7.heap ∧ (∀ b ∈ fp, H' b = none) ∧ W i m σ' H' := fun {σ7 H7} I7 n7 => by
      obtain ⟨m', hm, w7⟩ := hN σ7 H7 n7
      have kept : ∀ b ∈ fp, ∀ o, s5.heap.get? b = some o → s7.heap.get? b = some o ∧ H7 b = none := fun b hb o e => by
        have z := I7.pin (b, o) (List.mem_append_right _ (List.mem_append_right _ (mem_pinsAt hb e)))
        exact ⟨z.1, z.2.1⟩
      exact ⟨m', hm, i + 1, σ7, H7, I7.unpinned, T.keep _ _ _ st5 fun b hb o e => (kept b hb o e).1, fun b hb => by
        obtain ⟨o, e, _⟩ := T.obj _ _ st5 b hb
        exact (kept b hb o e).2, w7⟩
    cases f with
    | next => obtain ⟨σ7, H7, I7, n7⟩ := q7; exact again I7 n7
    | cont => obtain ⟨σ7, H7, I7, n7⟩ := q7; exact again I7 n7
    | brk => obtain ⟨σ7, H7, I7, q7⟩ := q7; exact ⟨σ7, H7, I7.unpinned, q7⟩
    | ret v => obtain ⟨x7, σ7, H7, I7, r7, q7⟩ := q7; exact ⟨x7, σ7, H7, I7.unpinned, r7, q7⟩
theorem evsp_for {sl : List Nat} {gg : MG} {mi : MI} {sa : MS} (hp : PassesOwn (model X.prog X.w) X.A X.env X.xe) (hc : X.calm = true) (hi : PI X tg iter (tI C W mi)) (hg : PG X tg (tG C sl gg)) (hb : PSsP X body (tS C W sa)) (hs : ∀ x, foldedSetIterable iter X.env x = pure x) :
    PSP X (.For tg iter body [] pos) (tS C W (sFor mi gg sa)) := weakSP (psp_for hp hc hi hg hb hs) fun Z σ H h => go_for h
theorem own_gx {P : Program} {w : World} {K : PySem.W.Frag} {mg : Str → Option Value} {base : Heap} {N : List Str} {qual : Str} {scope : Scope} {f : Addr} {cd : Value} {A : Around} {outer : List PySem.Env} {s : Shared} {H : Hp} {ex : List Addr} :
    PassesOwn (model P w) (gxOf P w K mg base N qual scope f cd A outer s H ex).A (gxOf P w K mg base N qual scope f cd A outer s H ex).env (gxOf P w K mg base N qual scope f cd A outer s H ex).xe := fun _ _ z => z.elim
end
/-! ### defs by their bodies, as printed -/
section
variable {C : EV.Ctx} {P : Program} {w : World} {mg : Str → Option Value} {base : Heap} {k : Nat} {f : Addr} {x qual : Str} {params : Arguments} {body : List Stmt} {scope : Scope} {dvs : List V} {kws : List (Str × V)} {fd : FuncData} {N ps : List Str} {nN nP : Nat}
theorem gfn_ok {m : MGn} {F : GenT} (FD : FunD C.K x qual params body scope dvs kws f fd) (S : GScope N ps scope) (hN : N.length = nN) (hP : ps.length = nP) (hF : F = runG nN m)
    (hb : ∀ (cdv : Value) (A : Around) (outer : List PySem.Env) (s : Shared) (H : Hp) (ex : List Addr), RoomG k (A.deeper (envOfC qual scope s.heap.objs.size f cdv)) → GPSs (gxOf P w C.K mg base N qual scope f cdv A outer s H ex) body (tGn C m)) : GFnP P w C.K mg base (k + 1) f fd ps (spG C nP F) := by
  subst hN; subst hP; subst hF
  exact gfn_soundP FD S hb
theorem fnp_ok {m : MS} {F : FunT} (FD : FunD C.K x qual params body scope dvs kws f fd) (S : FnScope N ps scope) (hN : N.length = nN) (hP : ps.length = nP) (hF : F = runL nN m)
    (hb : ∀ (cdv : Value) (A : Around) (outer : List PySem.Env) (s : Shared) (H : Hp), RoomG k (A.deeper (envOfC qual scope s.heap.objs.size f cdv)) → PSsP (gxOf P w C.K mg base N qual scope f cdv A outer s H []) body (tS C W0 m)) : FnGP P w C.K mg base (k + 1) f fd ps (spM C nP F) := by
  subst hN; subst hP; subst hF
  exact fn_soundP FD S hb
theorem callGen0 {n : Nat} {F : GenT} {qual : Str} {params : Arguments} {body : List Stmt} {scope : Scope} {dvs : List V} {kws : List (Str × V)} (FD : FunD C.K x qual params body scope dvs kws f fd) (hm : mg x = some (.ref f)) (G : GFnP P w C.K mg base k f fd ps (spG C n F)) (b : Binds C.K fd ps []) : CallGen C P w mg base k x n F :=
  ⟨f, fd, ps, hm, FD.kp, G, b⟩
theorem callLd0 {n : Nat} {F : FunT} {qual : Str} {params : Arguments} {body : List Stmt} {scope : Scope} {dvs : List V} {kws : List (Str × V)} (FD : FunD C.K x qual params body scope dvs kws f fd) (hm : mg x = some (.ref f)) (G : FnGP P w C.K mg base k f fd ps (spM C n F)) (b : Binds C.K fd ps []) : CallLd C P w mg base k x n F [] :=
  ⟨f, fd, ps, [], [], hm, FD.kp, G, b, .nil, fun _ _ => RelL.nil⟩
theorem callLdD {n : Nat} {F : FunT} {qual : Str} {params : Arguments} {body : List Stmt} {scope : Scope} {dvs : List V} {kws : List (Str × V)} {ws : List V} {dd : List D} (FD : FunD C.K x qual params body scope dvs kws f fd) (hm : mg x = some (.ref f)) (G : FnGP P w C.K mg base k f fd ps (spM C n F))
    (b : ∃ ds, Vals ws ds ∧ Binds C.K fd ps ds) (r : ∀ ρ H, RelL C ρ H dd ws) : CallLd C P w mg base k x n F dd := by
  obtain ⟨ds, v, b⟩ := b
  exact ⟨f, fd, ps, ws, ds, hm, FD.kp, G, b, v, r⟩
end
end RP


/-! EvRW: equations of generator bodies and loud defs; entries, as plain data. -/
namespace EV
open PySem PySem.Spec PyProof.Rows L2 RP
section
variable {env : Env} {h : Hd} {acc : List D} {d x : D} {xs : List D} {a b : MGn} {S : MS} {g : MG} {c : M Bool} {m : M D}
@[simp] theorem gQ_at : gQ S env h acc = (match S env h with
  | some (fl, e, h') => some (fl, e, h', acc)
  | none => none) := rfl
@[simp] theorem gYield_at : gYield m env h acc = (match m env h with
  | .ok d h1 => if acc.length < sizeLine then some (.nx, env, h1, acc ++ [d]) else none
  | _ => none) := rfl
@[simp] theorem gSeq_at : gSeq a b env h acc = (match a env h acc with
  | some (.nx, e, h', acc') => b e h' acc'
  | r => r) := rfl
@[simp] theorem gIf_at : gIf c a b env h acc = (match c env h with
  | .ok true h1 => a env h1 acc
  | .ok false h1 => b env h1 acc
  | _ => none) := rfl
@[simp] theorem gLoop_nil : gLoop g a [] env h acc = some (.nx, env, h, acc) := rfl
theorem gLoop_cons : gLoop g a (x :: xs) env h acc = (match g x env h with
    | none => none
    | some (env1, h1) => match a env1 h1 acc with
      | some (.nx, e2, h2, acc2) => gLoop g a xs e2 h2 acc2
      | some (.ct, e2, h2, acc2) => gLoop g a xs e2 h2 acc2
      | some (.bk, e2, h2, acc2) => some (.nx, e2, h2, acc2)
      | r => r) := rfl
@[simp] theorem gFor_at (it : MI) : gFor it g a env h acc = (match it env h with
  | .ok items h1 => gLoop g a items env h1 acc
  | _ => none) := rfl
@[simp] theorem gFrom_at (F : GenT) (n : Nat) (as : M (List D)) : gFrom F n as env h acc = (match as env h with
  | .ok xs h1 => if xs.length = n then (match F xs h1 acc with
    | some (acc', h2) => some (.nx, env, h2, acc')
    | none => none) else none
  | _ => none) := rfl
@[simp] theorem runG_at (n : Nat) (m : MGn) (ds : List D) : runG n m ds h acc = (match m (startE n ds) h acc with
  | some (.nx, _, h, acc') => some (acc', h)
  | _ => none) := rfl
@[simp] theorem ienum_at (m : M D) : ienum m env h = (m env h).bind fun x h1 => match x with
  | .tup xs => .ok (numbered xs) h1
  | .lst xs => .ok (numbered xs) h1
  | _ => .bad := rfl
@[simp] theorem mlistG_at (k : Bool) (F : GenT) (n : Nat) (as : M (List D)) : mlistG k F n as env h = (as env h).bind fun xs h1 => if xs.length = n then (match F xs h1 [] with
  | some (acc, h2) => fin k (if acc.length ≤ sizeLine then some (.new acc) else none) h2
  | none => .bad) else .bad := rfl
@[simp] theorem runL_at (n : Nat) (s : MS) (ds : List D) : runL n s ds h = (match s (startE n ds) h with
  | some (.nx, _, h) => .ok .non h
  | some (.ret d, _, h) => .ok d h
  | _ => .bad) := rfl
@[simp] theorem sat_runL (n : Nat) (s : MS) (ds : List D) (Q : D → Hd → Prop) (E : Exn → Hd → Prop) : Sat (runL n s ds h) Q E = SatS (s (startE n ds) h) (toRet Q fun _ _ => False) := by
  unfold runL
  cases s (startE n ds) h with
  | none => rfl
  | some q => obtain ⟨fl, e, h⟩ := q; cases fl <;> rfl
end
/-! ### entries -/
def entD (place : List D) (m th item : D) : D := .tup [.tup place, m, th, item]
mutual
def It.ents (place : List D) (m th : D) : It → List D
  | .mod w body b => entD place m th (It.mod w body b).d :: It.entsL 0 place (.tup place) th body
  | t => [entD place m th t.d]
def It.entsL (i : Nat) (place : List D) (m th : D) : List It → List D
  | [] => []
  | t :: ts => It.ents (place ++ [.int (i : Nat)]) m th t ++ It.entsL (i + 1) place m th ts
end
/-- how many entries at most: e bodies inside of one another, m items in each -/
def entN (m : Nat) : Nat → Nat
  | 0 => 1
  | e + 1 => 1 + m * entN m e
theorem entN_pos (m e : Nat) : 1 ≤ entN m e := by
  cases e with
  | zero => exact Nat.le_refl _
  | succ e => simp only [entN]; omega
theorem entsL_len {k : Nat} {place : List D} {mo th : D} : ∀ {its : List It} {i : Nat}, (∀ t ∈ its, ∀ p mo, (It.ents p mo th t).length ≤ k) → (It.entsL i place mo th its).length ≤ its.length * k
  | [], i, _ => by simp [It.entsL]
  | t :: ts, i, h => by
    simp only [It.entsL, List.length_append, List.length_cons, Nat.succ_mul]
    have h1 := h t List.mem_cons_self (place ++ [.int (i : Nat)]) mo
    have h2 := entsL_len (i := i + 1) (place := place) (mo := mo) fun u hu => h u (List.mem_cons_of_mem _ hu)
    omega
theorem ents_len {m : Nat} : ∀ {e : Nat} {t : It}, t.Ok m e → ∀ (place : List D) (mo th : D), (It.ents place mo th t).length ≤ entN m e
  | e, .gap, _, p, mo, th => entN_pos m e
  | e, .fn _ _ _, _, p, mo, th => entN_pos m e
  | e, .use _ _ _ _, _, p, mo, th => entN_pos m e
  | e, .glob _ _ _, _, p, mo, th => entN_pos m e
  | e, .call _ _ _, _, p, mo, th => entN_pos m e
  | e, .mac _ _ _ _, _, p, mo, th => entN_pos m e
  | 0, .mod _ _ _, h, p, mo, th => by simp [It.Ok] at h
  | e + 1, .mod w body b, h, p, mo, th => by
    simp only [It.Ok] at h
    simp only [It.ents, List.length_cons, entN]
    have := entsL_len (i := 0) (place := p) (mo := .tup p) (th := th) (k := entN m e) fun t ht p mo => ents_len (h.2.2 t ht) p mo th
    have h2 := Nat.mul_le_mul_right (entN m e) h.2.1
    omega
/-! ### data is equal to itself, and shown -/
mutual
theorem lay_of {Av : List Str} : ∀ (v : D), PlD Av v → ∃ p, toPy v = some p ∧ p.canLay0 = true ∧ p.depth ≤ dpD v
  | .str z, h => by
    simp only [PlD] at h
    refine ⟨.str z, by simp only [toPy], ?_, Nat.le_refl _⟩
    unfold PyData.canLay0 PyData.strOk
    rw [← Array.all_toList, List.all_eq_true]
    exact fun c hc => decide_eq_true (by have := h.1 c hc; omega)
  | .int i, h => ⟨.int i, by simp only [toPy], rfl, Nat.le_refl _⟩
  | .bl b, _ => ⟨.bool b, by simp only [toPy], rfl, Nat.le_refl _⟩
  | .non, _ => ⟨.none, by simp only [toPy], rfl, Nat.le_refl _⟩
  | .tup xs, h => by
    simp only [PlD] at h
    obtain ⟨ps, e, c, d⟩ := layL_of xs h
    exact ⟨.tuple ps, by simp only [toPy, e, Option.map_some], by simp only [PyData.canLay0, c], by simp only [PyData.depth, dpD]; omega⟩
  | .lst xs, h => by
    simp only [PlD] at h
    obtain ⟨ps, e, c, d⟩ := layL_of xs h
    exact ⟨.list ps, by simp only [toPy, e, Option.map_some], by simp only [PyData.canLay0, c], by simp only [PyData.depth, dpD]; omega⟩
  | .ref _, h => by simp only [PlD] at h
  | .fn _, h => by simp only [PlD] at h
  | .ty _, h => by simp only [PlD] at h
  | .cl _, h => by simp only [PlD] at h
  | .scr _, h => by simp only [PlD] at h
  | .dic _ _, h => by simp only [PlD] at h
theorem layL_of {Av : List Str} : ∀ (xs : List D), PlL Av xs → ∃ ps, toPyL xs = some ps ∧ PyData.canLayAll0 ps = true ∧ PyData.depthAll ps ≤ dpL xs
  | [], _ => ⟨[], rfl, rfl, Nat.le_refl _⟩
  | x :: xs, h => by
    simp only [PlL] at h
    obtain ⟨p, e1, c1, d1⟩ := lay_of x h.1
    obtain ⟨ps, e2, c2, d2⟩ := layL_of xs h.2
    exact ⟨p :: ps, by simp only [toPyL, e1, e2], by simp only [PyData.canLayAll0, c1, c2, Bool.and_self], by simp only [PyData.depthAll, dpL]; omega⟩
end
theorem eqv_same {Av : List Str} {v : D} (hp : PlD Av v) (hd : dpD v ≤ 60) (h : Hd) : eqv v v h = some true := by
  obtain ⟨p, e, c, d⟩ := lay_of v hp
  have key : toPyT h v = some p → eqv v v h = some true ∨ ∃ z, v = .str z ∨ (∃ i, v = .int i) ∨ ∃ b, v = .bl b := fun e1 => by
    have s1 : SeqAt.shaped p = true := by
      unfold SeqAt.shaped
      rw [c, Bool.true_and]
      exact decide_eq_true (by omega)
    cases v with
    | str z => exact .inr ⟨z, .inl rfl⟩
    | int i => exact .inr ⟨"", .inr (.inl ⟨i, rfl⟩)⟩
    | bl b => exact .inr ⟨"", .inr (.inr ⟨b, rfl⟩)⟩
    | _ =>
      left
      unfold eqv
      simp only [e1]
      rw [if_pos ⟨s1, s1⟩, SeqAt.eqv_refl p c]
  have e1 : toPyT h v = some p := by
    cases v with
    | ref _ => simp only [PlD] at hp
    | _ => exact e
  rcases key e1 with k | ⟨z, k | ⟨i, k⟩ | ⟨b, k⟩⟩
  · exact k
  · subst k; simp [eqv]
  · subst k; simp [eqv]
  · subst k; simp [eqv]
theorem repr_pl {Av : List Str} (hav : ∀ w ∈ Av, Upp w) {v : D} (hp : PlD Av v) (hs : szD v ≤ 16777216) (hd : dpD v ≤ 60) (ht : (∃ xs, v = .tup xs) ∨ ∃ xs, v = .lst xs) : ∃ z : Str, (∀ h, fReprA [v] h = some (.v (.str z))) ∧ ∀ w ∈ Av, NoQ w.cps.toList z.cps.toList := by
  obtain ⟨p, e, a, l, d, q⟩ := (shq_of (fun w hw => (hav w hw).let_) v hp).ex
  refine ⟨p.shown, fun h => ?_, q⟩
  have key : (match toPy v with
      | some p => if p.showable = true ∧ p.shown.length ≤ sizeLine ∧ p.depth ≤ 60 then some (OV.v (.str p.shown)) else none
      | none => none) = some (OV.v (.str p.shown)) := by
    rw [e]
    simp only
    rw [if_pos ⟨a, by rw [sizeLine_eq]; omega, by omega⟩]
  rcases ht with ⟨xs, rfl⟩ | ⟨xs, rfl⟩
  · exact key
  · exact key
theorem repr_same {v : D} (hp : PlD [] v) (hs : szD v ≤ 16777216) (hd : dpD v ≤ 60) (ht : (∃ xs, v = .tup xs) ∨ ∃ xs, v = .lst xs) : ∃ z : Str, ∀ h, fReprA [v] h = some (.v (.str z)) := by
  obtain ⟨z, e, _⟩ := repr_pl (Av := []) (fun w hw => (by cases hw)) hp hs hd ht
  exact ⟨z, e⟩
/-- plain data of known size -/
structure Pn (d s : Nat) (v : D) : Prop where
  pl : PlD [] v
  dp : dpD v ≤ d
  sz : szD v ≤ s
structure PnL (d s : Nat) (xs : List D) : Prop where
  pl : PlL [] xs
  dp : dpL xs ≤ d
  sz : szL xs ≤ s
theorem Pn.up {d s d' s' : Nat} {v : D} (h : Pn d s v) (h1 : d ≤ d') (h2 : s ≤ s') : Pn d' s' v := ⟨h.pl, Nat.le_trans h.dp h1, Nat.le_trans h.sz h2⟩
theorem Pn.tup {d s : Nat} {xs : List D} (h : PnL d s xs) : Pn (d + 1) (s + 3) (.tup xs) := ⟨by simp only [PlD]; exact h.pl, by simp only [dpD]; have := h.dp; omega, by simp only [szD]; have := h.sz; omega⟩
theorem Pn.lst {d s : Nat} {xs : List D} (h : PnL d s xs) : Pn (d + 1) (s + 3) (.lst xs) := ⟨by simp only [PlD]; exact h.pl, by simp only [dpD]; have := h.dp; omega, by simp only [szD]; have := h.sz; omega⟩
theorem PnL.nil : PnL 0 0 [] := ⟨by simp only [PlL], by simp [dpL], by simp [szL]⟩
theorem PnL.cons {d s d' s' : Nat} {x : D} {xs : List D} (h : Pn d s x) (r : PnL d' s' xs) : PnL (max d d') (s + 2 + s') (x :: xs) :=
  ⟨by simp only [PlL]; exact ⟨h.pl, r.pl⟩, by simp only [dpL]; have := h.dp; have := r.dp; omega, by simp only [szL]; have := h.sz; have := r.sz; omega⟩
theorem Pn.low {z : Str} (h : Low z) : Pn 0 10 (.str z) := ⟨by simp only [PlD]; exact ⟨h.let_, h.1.2, fun hm => nomatch hm⟩, Nat.le_refl _, Nat.le_refl _⟩
theorem Pn.upp {z : Str} (h : Upp z) : Pn 0 10 (.str z) := ⟨by simp only [PlD]; exact ⟨h.let_, Fit.len (.inr h), fun hm => nomatch hm⟩, Nat.le_refl _, Nat.le_refl _⟩
theorem Pn.bl {b : Bool} : Pn 0 5 (.bl b) := ⟨by simp only [PlD], Nat.le_refl _, Nat.le_refl _⟩
theorem Pn.non : Pn 0 4 .non := ⟨by simp only [PlD], Nat.le_refl _, Nat.le_refl _⟩
theorem Pn.int {i : Int} (h : intOk i = true) : Pn 0 60 (.int i) := ⟨by simp only [PlD]; exact h, Nat.le_refl _, Nat.le_refl _⟩
theorem PnL.app {d s d' s' : Nat} {xs ys : List D} (h : PnL d s xs) (r : PnL d' s' ys) : PnL (max d d') (s + s') (xs ++ ys) := by
  have e : dpL (xs ++ ys) ≤ max d d' := by
    have h1 := h.dp
    have h2 := r.dp
    clear h r
    induction xs with
    | nil => simp only [List.nil_append]; omega
    | cons x xs ih =>
      simp only [dpL] at h1
      simp only [List.cons_append, dpL]
      have := ih (by omega)
      omega
  refine ⟨plL_of fun x hx => ?_, e, by rw [szL_append]; have := h.sz; have := r.sz; omega⟩
  rcases List.mem_append.mp hx with hx | hx
  · exact plL_mem h.pl x hx
  · exact plL_mem r.pl x hx
theorem Pn.eq {d s : Nat} {v : D} (h : Pn d s v) (hd : d ≤ 60) (hh : Hd) : eqv v v hh = some true := eqv_same h.pl (Nat.le_trans h.dp hd) hh
theorem PnL.repr {d s : Nat} {xs : List D} (h : PnL d s xs) (hd : d + 1 ≤ 60) (hs : s + 3 ≤ 16777216) : ∃ z : Str, ∀ hh, fReprA [.lst xs] hh = some (.v (.str z)) :=
  repr_same (Pn.lst h).pl (Nat.le_trans (Pn.lst h).sz hs) (Nat.le_trans (Pn.lst h).dp hd) (.inr ⟨_, rfl⟩)
section
variable {d s : Nat} {v : D} {h : Hd} {Q : D → Hd → Prop} {E : Exn → Hd → Prop}
theorem sat_ne_same (p : Pn d s v) (hd : d ≤ 60) (g : Q (.bl false) h) : Sat (fin false (Option.map (fun b => OV.v (D.bl !b)) (eqv v v h)) h) Q E := by
  rw [p.eq hd]; exact g
theorem sat_eq_same (p : Pn d s v) (hd : d ≤ 60) (g : Q (.bl true) h) : Sat (fin false (Option.map (fun b => OV.v (D.bl b)) (eqv v v h)) h) Q E := by
  rw [p.eq hd]; exact g
end
theorem repr_ref {n : Nat} {h : Hd} {xs : List D} (e : h[n]? = some (.lst xs)) : fReprA [.ref n] h = fReprA [.lst xs] h := by
  have e1 : toPyT h (.ref n) = toPyT h (.lst xs) := by
    simp only [toPyT, e, toPy]
  show fRepr [.ref n] h = fRepr [.lst xs] h
  unfold fRepr
  simp only [e1]
end EV


set_option maxHeartbeats 4000000
namespace EV
open PySem PySem.Spec PyProof.Rows L2 RP
def top (i : Nat) : Stmt := PySem.Challenge.pw_evermeant_k24_there_in_inner_modules.main.body.getD i (.Pass ⟨0, 0, 0, 0⟩)
def d_LETTERS : D := (.str "abcdefghijklmnopqrstuvwxyz")
def d_MOST_LETTERS : D := (.int 8)
structure TX (C : Ctx) (mg : Str → Option Value) : Prop where
  z_abs : mg "abs" = none
  z_all : mg "all" = none
  z_dict : mg "dict" = none
  z_divmod : mg "divmod" = none
  z_enumerate : mg "enumerate" = none
  z_isinstance : mg "isinstance" = none
  z_len : mg "len" = none
  z_list : mg "list" = none
  z_max : mg "max" = none
  z_min : mg "min" = none
  z_range : mg "range" = none
  z_repr : mg "repr" = none
  z_str : mg "str" = none
  z_tuple : mg "tuple" = none
  z_zip : mg "zip" = none
  g_LETTERS : GVal C mg "LETTERS" d_LETTERS
  g_MOST_LETTERS : GVal C mg "MOST_LETTERS" d_MOST_LETTERS
  gf_filled_expression : FVal C mg "filled_expression" 0
  gf_filled_path : FVal C mg "filled_path" 1
  gf_filled_body : FVal C mg "filled_body" 2
section
variable {C : Ctx} {P : Program} {w : World} {mg : Str → Option Value} {base : Heap}
abbrev st_is_made_of : Stmt := top 6
theorem sc_is_made_of : FnScope ["value", "signs", "most", "sign"] ["value", "signs", "most"] (defScope st_is_made_of) := ⟨rfl, rfl, rfl, by decide +kernel, rfl, by decide +kernel, by decide +kernel⟩
def m_is_made_of : MS := (sRet (mand (mfun false fIsi (mcons (mvar 0) (mcons (mc (.ty .str)) mnil))) (mand (mchain oLe oLe (mc (.int 1)) (mfun false fLen (mcons (mvar 0) mnil)) (mvar 2)) (mfun false fAll (mcons (mcomp false [3] (iseq (mvar 0)) (gname 3) yes (mop2 false oIn (mvar 3) (mvar 1))) mnil)))))
def F_is_made_of : FunT := runB 4 m_is_made_of
theorem ok_is_made_of {f : Addr} {fd : FuncData} {dvs : List V} {kws : List (Str × V)} (T : TX C mg) (FD : FunD C.K "is_made_of" "is_made_of" (defArgs st_is_made_of) (defBody st_is_made_of) (defScope st_is_made_of) dvs kws f fd) : FnG P w C.K mg base CX0 1 f fd ["value", "signs", "most"] (spM C 3 F_is_made_of) :=
  fn_ok (k := 0) (m := m_is_made_of) FD sc_is_made_of rfl rfl rfl fun cdv A outer s H E hr =>
  (evss_one (evs_ret (ev_and rfl (ev_B (fn_isi rfl) T.z_isinstance rfl bb_isinstance (evl_cons (ev_pv rfl rfl rfl rfl) (evl_cons (ev_ty (t := .str) T.z_str rfl bt_str rfl rfl) evl_nil rfl) rfl) rfl rfl rfl) (ev_and rfl (ev_chain (ops_cmp op_le) (ops_cmp op_le) ev_int (ev_B (fn_len rfl) T.z_len rfl bb_len (evl_cons (ev_pv rfl rfl rfl rfl) evl_nil rfl) rfl rfl rfl) (ev_pv rfl rfl rfl rfl) rfl) (ev_one (ev_B (fn_all rfl rfl) T.z_all rfl bb_all (evl_cons (ev_comp (own := [("sign", 3)]) rfl sc_is_made_of.nd (by decide) (evi_seq rfl (ev_pv rfl rfl rfl rfl)) (blkOk_by rfl) (fun s H Cc cl fp => (evg_n (i := 3) sc_is_made_of.nd rfl rfl)) (fun s H Cc cl fp => pts_nil) yes_t (fun s H Cc cl fp => (ev_cmp (ops_in rfl) (ev_pv rfl rfl rfl rfl) (ev_pv rfl rfl rfl rfl) rfl)) fun _ => rfl) evl_nil rfl) rfl rfl rfl))))))
abbrev st_is_name : Stmt := top 7
theorem sc_is_name : FnScope ["value"] ["value"] (defScope st_is_name) := ⟨rfl, rfl, rfl, by decide +kernel, rfl, by decide +kernel, by decide +kernel⟩
def m_is_name : MS := (sRet (mcall F_is_made_of 3 [] (mcons (mvar 0) (mcons (mc d_LETTERS) (mcons (mc d_MOST_LETTERS) mnil)))))
def F_is_name : FunT := runB 1 m_is_name
theorem ok_is_name {f : Addr} {fd : FuncData} {dvs : List V} {kws : List (Str × V)} (T : TX C mg) (c_is_made_of_3 : CallOk C P w mg base CX0 1 "is_made_of" 3 F_is_made_of []) (FD : FunD C.K "is_name" "is_name" (defArgs st_is_name) (defBody st_is_name) (defScope st_is_name) dvs kws f fd) : FnG P w C.K mg base CX0 2 f fd ["value"] (spM C 1 F_is_name) :=
  fn_ok (k := 1) (m := m_is_name) FD sc_is_name rfl rfl rfl fun cdv A outer s H E hr =>
  (evss_one (evs_ret (ev_user rfl c_is_made_of_3 hr rfl rfl (fun _ => passAt0) (evl_cons (ev_pv rfl rfl rfl rfl) (evl_cons (ev_glob T.g_LETTERS rfl rfl) (evl_cons (ev_glob T.g_MOST_LETTERS rfl rfl) evl_nil rfl) rfl) rfl) rfl rfl)))
abbrev st_filled_path : Stmt := top 9
theorem sc_filled_path : FnScope ["path", "words", "start", "rest", "word"] ["path", "words"] (defScope st_filled_path) := ⟨rfl, rfl, rfl, by decide +kernel, rfl, by decide +kernel, by decide +kernel⟩
def m_filled_path : MS := (sSeq (sAsg (mvar 0) (gstar [(gname 2), (gname 3)]))
  (sRet (mtup (mcons (mvar 2) (mstar (mcomp false [4] (iseq (mvar 3)) (gname 4) yes (mget2 (mvar 1) (mvar 4) (mvar 4))) mnil)))))
def F_filled_path : FunT := runB 5 m_filled_path
theorem ok_filled_path {f : Addr} {fd : FuncData} {dvs : List V} {kws : List (Str × V)} (T : TX C mg) (FD : FunD C.K "filled_path" "filled_path" (defArgs st_filled_path) (defBody st_filled_path) (defScope st_filled_path) dvs kws f fd) : FnG P w C.K mg base CX0 1 f fd ["path", "words"] (spM C 2 F_filled_path) :=
  fn_ok (k := 0) (m := m_filled_path) FD sc_filled_path rfl rfl rfl fun cdv A outer s H E hr =>
  (evss_cons (evs_asg (ev_pv rfl rfl rfl rfl) (evg_star (es := [_]) rfl rfl (evgs_cons (evg_n (i := 2) sc_filled_path.nd rfl rfl) (evgs_cons (evg_n (i := 3) sc_filled_path.nd rfl rfl) evgs_nil rfl) rfl) rfl rfl) rfl)
  (evss_one (evs_ret (ev_tup (evl_cons (ev_pv rfl rfl rfl rfl) (evl_star rfl (ev_comp (own := [("word", 4)]) rfl sc_filled_path.nd (by decide) (evi_seq rfl (ev_pv rfl rfl rfl rfl)) (blkOk_by rfl) (fun s H Cc cl fp => (evg_n (i := 4) sc_filled_path.nd rfl rfl)) (fun s H Cc cl fp => pts_nil) yes_t (fun s H Cc cl fp => (ev_get2 hr.room64 (ev_pv rfl rfl rfl rfl) (ev_pv rfl rfl rfl rfl) (ev_pv rfl rfl rfl rfl) rfl rfl rfl rfl)) fun _ => rfl) evl_nil) rfl)))))
abbrev st_filled_expression : Stmt := top 10
theorem sc_filled_expression : FnScope ["expression", "words", "kind", "parts", "part"] ["expression", "words"] (defScope st_filled_expression) := ⟨rfl, rfl, rfl, by decide +kernel, rfl, by decide +kernel, by decide +kernel⟩
def m_filled_expression (G_filled_expression : FunT) : MS := (sSeq (sAsg (mvar 0) (gstar [(gname 2), (gname 3)]))
  (sSeq (sIf (mbl (mop2 false oEq (mvar 2) (mc (.str "num")))) (sRet (mvar 0)) sPass)
  (sSeq (sIf (mbl (mop2 false oEq (mvar 2) (mc (.str "ref")))) (sRet (mtup (mcons (mvar 2) (mcons (mcall F_filled_path 2 [] (mcons (mop2 false oIx (mvar 3) (mc (.int 0))) (mcons (mvar 1) mnil))) mnil)))) sPass)
  (sRet (mtup (mcons (mvar 2) (mstar (mcomp false [4] (iseq (mvar 3)) (gname 4) yes (mcall G_filled_expression 2 [] (mcons (mvar 4) (mcons (mvar 1) mnil)))) mnil)))))))
theorem ok_filled_expression {n : Nat} {G_filled_expression : FunT} {f : Addr} {fd : FuncData} {dvs : List V} {kws : List (Str × V)} (T : TX C mg) (c_filled_path_2 : CallOk C P w mg base CX0 1 "filled_path" 2 F_filled_path []) (c_filled_expression_2 : CallOk C P w mg base CX0 (1 + n) "filled_expression" 2 G_filled_expression []) (FD : FunD C.K "filled_expression" "filled_expression" (defArgs st_filled_expression) (defBody st_filled_expression) (defScope st_filled_expression) dvs kws f fd) : FnG P w C.K mg base CX0 (1 + n + 1) f fd ["expression", "words"] (spM C 2 (runB 5 (m_filled_expression G_filled_expression))) :=
  fn_ok (k := 1 + n) (m := (m_filled_expression G_filled_expression)) FD sc_filled_expression rfl rfl rfl fun cdv A outer s H E hr =>
  (evss_cons (evs_asg (ev_pv rfl rfl rfl rfl) (evg_star (es := [_]) rfl rfl (evgs_cons (evg_n (i := 2) sc_filled_expression.nd rfl rfl) (evgs_cons (evg_n (i := 3) sc_filled_expression.nd rfl rfl) evgs_nil rfl) rfl) rfl rfl) rfl)
  (evss_cons (evs_if (evt_cmp (ops_eq rfl hr.room64) (ev_pv rfl rfl rfl rfl) (ev_str rfl) rfl) (evss_one (evs_ret (ev_pv rfl rfl rfl rfl))) evss_nil)
  (evss_cons (evs_if (evt_cmp (ops_eq rfl hr.room64) (ev_pv rfl rfl rfl rfl) (ev_str rfl) rfl) (evss_one (evs_ret (ev_tup (evl_cons (ev_pv rfl rfl rfl rfl) (evl_cons (ev_user rfl c_filled_path_2 hr (decide_eq_true (Nat.le_trans (Nat.le_of_ble_eq_true rfl) (Nat.le_add_right _ _))) rfl (fun _ => passAt0) (evl_cons (ev_ix (ix_ok rfl) (ev_pv rfl rfl rfl rfl) ev_int fun _ _ => rfl) (evl_cons (ev_pv rfl rfl rfl rfl) evl_nil rfl) rfl) rfl rfl) evl_nil rfl) rfl)))) evss_nil)
  (evss_one (evs_ret (ev_tup (evl_cons (ev_pv rfl rfl rfl rfl) (evl_star rfl (ev_comp (own := [("part", 4)]) rfl sc_filled_expression.nd (by decide) (evi_seq rfl (ev_pv rfl rfl rfl rfl)) (blkOk_by rfl) (fun s H Cc cl fp => (evg_n (i := 4) sc_filled_expression.nd rfl rfl)) (fun s H Cc cl fp => pts_nil) yes_t (fun s H Cc cl fp => (ev_user rfl c_filled_expression_2 hr (decide_eq_true (Nat.le_refl _)) rfl (fun _ => passAt0) (evl_cons (ev_pv rfl rfl rfl rfl) (evl_cons (ev_pv rfl rfl rfl rfl) evl_nil rfl) rfl) rfl rfl)) fun _ => rfl) evl_nil) rfl)))))))
def FF_filled_expression : Nat → Nat → FunT
  | 0, _ => fun _ _ => .bad
  | n + 1, 0 => runB 5 (m_filled_expression (FF_filled_expression n 0))
  | _ + 1, _ => fun _ _ => .bad
def F_filled_expression : FunT := FF_filled_expression 12 0
abbrev st_filled_item : Stmt := top 11
theorem sc_filled_item : FnScope ["item", "words", "kind", "parts", "word"] ["item", "words"] (defScope st_filled_item) := ⟨rfl, rfl, rfl, by decide +kernel, rfl, by decide +kernel, by decide +kernel⟩
def m_filled_item (G_filled_item : FunT) (G_filled_rest : FunT) (G_filled_body : FunT) : MS := (sSeq (sAsg (mvar 0) (gstar [(gname 2), (gname 3)]))
  (sSeq (sIf (mbl (mop2 false oEq (mvar 2) (mc (.str "gap")))) (sRet (mvar 0)) sPass)
  (sSeq (sIf (mbl (mop2 false oEq (mvar 2) (mc (.str "glob")))) (sRet (mtup (mcons (mvar 2) (mcons (mcall F_filled_path 2 [] (mcons (mop2 false oIx (mvar 3) (mc (.int 0))) (mcons (mvar 1) mnil))) (mcons (mop2 false oIx (mvar 3) (mc (.int 1))) mnil))))) sPass)
  (sSeq (sIf (mbl (mop2 false oEq (mvar 2) (mc (.str "call")))) (sRet (mtup (mcons (mvar 2) (mcons (mcall F_filled_path 2 [] (mcons (mop2 false oIx (mvar 3) (mc (.int 0))) (mcons (mvar 1) mnil))) (mcons (mfun false fTuple (mcons (mcomp false [4] (iseq (mop2 false oIx (mvar 3) (mc (.int 1)))) (gname 4) yes (mget2 (mvar 1) (mvar 4) (mvar 4))) mnil)) mnil))))) sPass)
  (sRet (mtup (mcons (mvar 2) (mcons (mget2 (mvar 1) (mop2 false oIx (mvar 3) (mc (.int 0))) (mop2 false oIx (mvar 3) (mc (.int 0)))) (mstar (mcall G_filled_rest 3 [] (mcons (mvar 2) (mcons (msl false (mvar 3) (mpart (some (mc (.int 1)))) (mpart none)) (mcons (mvar 1) mnil)))) mnil)))))))))
theorem ok_filled_item {n : Nat} {G_filled_item : FunT} {G_filled_rest : FunT} {G_filled_body : FunT} {f : Addr} {fd : FuncData} {dvs : List V} {kws : List (Str × V)} (T : TX C mg) (c_filled_path_2 : CallOk C P w mg base CX0 1 "filled_path" 2 F_filled_path []) (c_filled_rest_3 : CallOk C P w mg base CX0 (13 + n) "filled_rest" 3 G_filled_rest []) (FD : FunD C.K "filled_item" "filled_item" (defArgs st_filled_item) (defBody st_filled_item) (defScope st_filled_item) dvs kws f fd) : FnG P w C.K mg base CX0 (13 + n + 1) f fd ["item", "words"] (spM C 2 (runB 5 (m_filled_item G_filled_item G_filled_rest G_filled_body))) :=
  fn_ok (k := 13 + n) (m := (m_filled_item G_filled_item G_filled_rest G_filled_body)) FD sc_filled_item rfl rfl rfl fun cdv A outer s H E hr =>
  (evss_cons (evs_asg (ev_pv rfl rfl rfl rfl) (evg_star (es := [_]) rfl rfl (evgs_cons (evg_n (i := 2) sc_filled_item.nd rfl rfl) (evgs_cons (evg_n (i := 3) sc_filled_item.nd rfl rfl) evgs_nil rfl) rfl) rfl rfl) rfl)
  (evss_cons (evs_if (evt_cmp (ops_eq rfl hr.room64) (ev_pv rfl rfl rfl rfl) (ev_str rfl) rfl) (evss_one (evs_ret (ev_pv rfl rfl rfl rfl))) evss_nil)
  (evss_cons (evs_if (evt_cmp (ops_eq rfl hr.room64) (ev_pv rfl rfl rfl rfl) (ev_str rfl) rfl) (evss_one (evs_ret (ev_tup (evl_cons (ev_pv rfl rfl rfl rfl) (evl_cons (ev_user rfl c_filled_path_2 hr (decide_eq_true (Nat.le_trans (Nat.le_of_ble_eq_true rfl) (Nat.le_add_right _ _))) rfl (fun _ => passAt0) (evl_cons (ev_ix (ix_ok rfl) (ev_pv rfl rfl rfl rfl) ev_int fun _ _ => rfl) (evl_cons (ev_pv rfl rfl rfl rfl) evl_nil rfl) rfl) rfl rfl) (evl_cons (ev_ix (ix_ok rfl) (ev_pv rfl rfl rfl rfl) ev_int fun _ _ => rfl) evl_nil rfl) rfl) rfl)))) evss_nil)
  (evss_cons (evs_if (evt_cmp (ops_eq rfl hr.room64) (ev_pv rfl rfl rfl rfl) (ev_str rfl) rfl) (evss_one (evs_ret (ev_tup (evl_cons (ev_pv rfl rfl rfl rfl) (evl_cons (ev_user rfl c_filled_path_2 hr (decide_eq_true (Nat.le_trans (Nat.le_of_ble_eq_true rfl) (Nat.le_add_right _ _))) rfl (fun _ => passAt0) (evl_cons (ev_ix (ix_ok rfl) (ev_pv rfl rfl rfl rfl) ev_int fun _ _ => rfl) (evl_cons (ev_pv rfl rfl rfl rfl) evl_nil rfl) rfl) rfl rfl) (evl_cons (ev_T (fn_tuple rfl) T.z_tuple rfl bt_tuple (evl_cons (ev_comp (own := [("word", 4)]) rfl sc_filled_item.nd (by decide) (evi_seq rfl (ev_ix (ix_ok rfl) (ev_pv rfl rfl rfl rfl) ev_int fun _ _ => rfl)) (blkOk_by rfl) (fun s H Cc cl fp => (evg_n (i := 4) sc_filled_item.nd rfl rfl)) (fun s H Cc cl fp => pts_nil) yes_t (fun s H Cc cl fp => (ev_get2 hr.room64 (ev_pv rfl rfl rfl rfl) (ev_pv rfl rfl rfl rfl) (ev_pv rfl rfl rfl rfl) rfl rfl rfl rfl)) fun _ => rfl) evl_nil rfl) rfl rfl rfl) evl_nil rfl) rfl) rfl)))) evss_nil)
  (evss_one (evs_ret (ev_tup (evl_cons (ev_pv rfl rfl rfl rfl) (evl_cons (ev_get2 hr.room64 (ev_pv rfl rfl rfl rfl) (ev_ix (ix_ok rfl) (ev_pv rfl rfl rfl rfl) ev_int fun _ _ => rfl) (ev_ix (ix_ok rfl) (ev_pv rfl rfl rfl rfl) ev_int fun _ _ => rfl) rfl rfl rfl rfl) (evl_star rfl (ev_user rfl c_filled_rest_3 hr (decide_eq_true (Nat.le_refl _)) rfl (fun _ => passAt0) (evl_cons (ev_pv rfl rfl rfl rfl) (evl_cons (ev_sl rfl (ev_pv rfl rfl rfl rfl) (evo_some ev_int) evo_none) (evl_cons (ev_pv rfl rfl rfl rfl) evl_nil rfl) rfl) rfl) rfl rfl) evl_nil) rfl) rfl))))))))
abbrev st_filled_rest : Stmt := top 12
theorem sc_filled_rest : FnScope ["kind", "parts", "words", "work"] ["kind", "parts", "words"] (defScope st_filled_rest) := ⟨rfl, rfl, rfl, by decide +kernel, rfl, by decide +kernel, by decide +kernel⟩
def m_filled_rest (G_filled_item : FunT) (G_filled_rest : FunT) (G_filled_body : FunT) : MS := (sSeq (sIf (mbl (mop2 false oEq (mvar 0) (mc (.str "macro")))) (sRet (mlst false (mcons (mop2 false oIx (mvar 1) (mc (.int 0))) (mcons (mcall G_filled_body 2 [] (mcons (mop2 false oIx (mvar 1) (mc (.int 1))) (mcons (mvar 2) mnil))) (mcons (mop2 false oIx (mvar 1) (mc (.int 2))) mnil))))) sPass)
  (sSeq (sAsg (mixd (mdisp false [((mc (.str "fn")), (mc (.fn 0))), ((mc (.str "use")), (mc (.fn 1))), ((mc (.str "mod")), (mc (.fn 2)))]) (mvar 0)) (gname 3))
  (sRet (mlst false (mcons (mcallL 3 [(2, 2, G_filled_body), (0, 2, F_filled_expression), (1, 2, F_filled_path)] (mcons (mop2 false oIx (mvar 1) (mc (.int 0))) (mcons (mvar 2) mnil))) (mcons (mop2 false oIx (mvar 1) (mc (.int 1))) mnil))))))
theorem ok_filled_rest {n : Nat} {G_filled_item : FunT} {G_filled_rest : FunT} {G_filled_body : FunT} {f : Addr} {fd : FuncData} {dvs : List V} {kws : List (Str × V)} (T : TX C mg) (c_filled_body_2 : CallOk C P w mg base CX0 (13 + n) "filled_body" 2 G_filled_body []) (c_filled_expression_2 : CallOk C P w mg base CX0 13 "filled_expression" 2 F_filled_expression []) (c_filled_path_2 : CallOk C P w mg base CX0 1 "filled_path" 2 F_filled_path []) (FD : FunD C.K "filled_rest" "filled_rest" (defArgs st_filled_rest) (defBody st_filled_rest) (defScope st_filled_rest) dvs kws f fd) : FnG P w C.K mg base CX0 (13 + n + 1) f fd ["kind", "parts", "words"] (spM C 3 (runB 4 (m_filled_rest G_filled_item G_filled_rest G_filled_body))) :=
  fn_ok (k := 13 + n) (m := (m_filled_rest G_filled_item G_filled_rest G_filled_body)) FD sc_filled_rest rfl rfl rfl fun cdv A outer s H E hr =>
  (evss_cons (evs_if (evt_cmp (ops_eq rfl hr.room64) (ev_pv rfl rfl rfl rfl) (ev_str rfl) rfl) (evss_one (evs_ret (ev_lst (evl_cons (ev_ix (ix_ok rfl) (ev_pv rfl rfl rfl rfl) ev_int fun _ _ => rfl) (evl_cons (ev_user rfl c_filled_body_2 hr (decide_eq_true (Nat.le_refl _)) rfl (fun _ => passAt0) (evl_cons (ev_ix (ix_ok rfl) (ev_pv rfl rfl rfl rfl) ev_int fun _ _ => rfl) (evl_cons (ev_pv rfl rfl rfl rfl) evl_nil rfl) rfl) rfl rfl) (evl_cons (ev_ix (ix_ok rfl) (ev_pv rfl rfl rfl rfl) ev_int fun _ _ => rfl) evl_nil rfl) rfl) rfl)))) evss_nil)
  (evss_cons (evs_asg (ev_mixd rfl hr.room64 (ev_disp (dsp_cons (ev_str rfl) (ev_glob T.gf_filled_expression.val rfl rfl) (dsp_cons (ev_str rfl) (ev_glob T.gf_filled_path.val rfl rfl) (dsp_cons (ev_str rfl) (ev_glob T.gf_filled_body.val rfl rfl) dsp_nil))) rfl rfl rfl rfl) (ev_pv rfl rfl rfl rfl) fun _ _ => rfl) (evg_n (i := 3) sc_filled_rest.nd rfl rfl) rfl)
  (evss_one (evs_ret (ev_lst (evl_cons (ev_callL (j := (13 + n)) (i := 3) (T := [(2, 2, G_filled_body), (0, 2, F_filled_expression), (1, 2, F_filled_path)]) rfl ⟨LocOk.of (CallOk.weak c_filled_body_2 (Nat.le_refl _)) T.gf_filled_body.at_, ⟨LocOk.of (CallOk.weak c_filled_expression_2 (Nat.le_trans (Nat.le_of_ble_eq_true rfl) (Nat.le_add_right _ _))) T.gf_filled_expression.at_, ⟨LocOk.of (CallOk.weak c_filled_path_2 (Nat.le_trans (Nat.le_of_ble_eq_true rfl) (Nat.le_add_right _ _))) T.gf_filled_path.at_, trivial⟩⟩⟩ hr (decide_eq_true (Nat.le_refl _)) rfl (.inl rfl) (fun _ => passAt0) (evl_cons (ev_ix (ix_ok rfl) (ev_pv rfl rfl rfl rfl) ev_int fun _ _ => rfl) (evl_cons (ev_pv rfl rfl rfl rfl) evl_nil rfl) rfl) rfl rfl rfl) (evl_cons (ev_ix (ix_ok rfl) (ev_pv rfl rfl rfl rfl) ev_int fun _ _ => rfl) evl_nil rfl) rfl))))))
abbrev st_filled_body : Stmt := top 13
theorem sc_filled_body : FnScope ["body", "words", "item"] ["body", "words"] (defScope st_filled_body) := ⟨rfl, rfl, rfl, by decide +kernel, rfl, by decide +kernel, by decide +kernel⟩
def m_filled_body (G_filled_item : FunT) (G_filled_rest : FunT) (G_filled_body : FunT) : MS := (sRet (mfun false fTuple (mcons (mcomp false [2] (iseq (mvar 0)) (gname 2) yes (mcall G_filled_item 2 [] (mcons (mvar 2) (mcons (mvar 1) mnil)))) mnil)))
theorem ok_filled_body {n : Nat} {G_filled_item : FunT} {G_filled_rest : FunT} {G_filled_body : FunT} {f : Addr} {fd : FuncData} {dvs : List V} {kws : List (Str × V)} (T : TX C mg) (c_filled_item_2 : CallOk C P w mg base CX0 (13 + n) "filled_item" 2 G_filled_item []) (FD : FunD C.K "filled_body" "filled_body" (defArgs st_filled_body) (defBody st_filled_body) (defScope st_filled_body) dvs kws f fd) : FnG P w C.K mg base CX0 (13 + n + 1) f fd ["body", "words"] (spM C 2 (runB 3 (m_filled_body G_filled_item G_filled_rest G_filled_body))) :=
  fn_ok (k := 13 + n) (m := (m_filled_body G_filled_item G_filled_rest G_filled_body)) FD sc_filled_body rfl rfl rfl fun cdv A outer s H E hr =>
  (evss_one (evs_ret (ev_T (fn_tuple rfl) T.z_tuple rfl bt_tuple (evl_cons (ev_comp (own := [("item", 2)]) rfl sc_filled_body.nd (by decide) (evi_seq rfl (ev_pv rfl rfl rfl rfl)) (blkOk_by rfl) (fun s H Cc cl fp => (evg_n (i := 2) sc_filled_body.nd rfl rfl)) (fun s H Cc cl fp => pts_nil) yes_t (fun s H Cc cl fp => (ev_user rfl c_filled_item_2 hr (decide_eq_true (Nat.le_refl _)) rfl (fun _ => passAt0) (evl_cons (ev_pv rfl rfl rfl rfl) (evl_cons (ev_pv rfl rfl rfl rfl) evl_nil rfl) rfl) rfl rfl)) fun _ => rfl) evl_nil rfl) rfl rfl rfl)))
def FF_filled_item : Nat → Nat → FunT
  | 0, _ => fun _ _ => .bad
  | n + 1, 0 => runB 5 (m_filled_item (FF_filled_item n 0) (FF_filled_item n 1) (FF_filled_item n 2))
  | n + 1, 1 => runB 4 (m_filled_rest (FF_filled_item n 0) (FF_filled_item n 1) (FF_filled_item n 2))
  | n + 1, 2 => runB 3 (m_filled_body (FF_filled_item n 0) (FF_filled_item n 1) (FF_filled_item n 2))
  | _ + 1, _ => fun _ _ => .bad
def F_filled_item : FunT := FF_filled_item 12 0
def F_filled_rest : FunT := FF_filled_item 12 1
def F_filled_body : FunT := FF_filled_item 12 2
abbrev st_are_arguments : Stmt := top 14
theorem sc_are_arguments : FnScope ["value", "count", "one"] ["value", "count"] (defScope st_are_arguments) := ⟨rfl, rfl, rfl, by decide +kernel, rfl, by decide +kernel, by decide +kernel⟩
def m_are_arguments : MS := (sRet (mand (mfun false fIsi (mcons (mvar 0) (mcons (mc (.ty .tuple)) mnil))) (mand (mop2 false oEq (mfun false fLen (mcons (mvar 0) mnil)) (mvar 1)) (mfun false fAll (mcons (mcomp false [2] (iseq (mvar 0)) (gname 2) yes (mcall F_is_name 1 [] (mcons (mvar 2) mnil))) mnil)))))
def F_are_arguments : FunT := runB 3 m_are_arguments
theorem ok_are_arguments {f : Addr} {fd : FuncData} {dvs : List V} {kws : List (Str × V)} (T : TX C mg) (c_is_name_1 : CallOk C P w mg base CX0 2 "is_name" 1 F_is_name []) (FD : FunD C.K "are_arguments" "are_arguments" (defArgs st_are_arguments) (defBody st_are_arguments) (defScope st_are_arguments) dvs kws f fd) : FnG P w C.K mg base CX0 3 f fd ["value", "count"] (spM C 2 F_are_arguments) :=
  fn_ok (k := 2) (m := m_are_arguments) FD sc_are_arguments rfl rfl rfl fun cdv A outer s H E hr =>
  (evss_one (evs_ret (ev_and rfl (ev_B (fn_isi rfl) T.z_isinstance rfl bb_isinstance (evl_cons (ev_pv rfl rfl rfl rfl) (evl_cons (ev_ty (t := .tuple) T.z_tuple rfl bt_tuple rfl rfl) evl_nil rfl) rfl) rfl rfl rfl) (ev_and rfl (ev_cmp (ops_eq rfl hr.room64) (ev_B (fn_len rfl) T.z_len rfl bb_len (evl_cons (ev_pv rfl rfl rfl rfl) evl_nil rfl) rfl rfl rfl) (ev_pv rfl rfl rfl rfl) rfl) (ev_one (ev_B (fn_all rfl rfl) T.z_all rfl bb_all (evl_cons (ev_comp (own := [("one", 2)]) rfl sc_are_arguments.nd (by decide) (evi_seq rfl (ev_pv rfl rfl rfl rfl)) (blkOk_by rfl) (fun s H Cc cl fp => (evg_n (i := 2) sc_are_arguments.nd rfl rfl)) (fun s H Cc cl fp => pts_nil) yes_t (fun s H Cc cl fp => (ev_user rfl c_is_name_1 hr rfl rfl (fun _ => passAt0) (evl_cons (ev_pv rfl rfl rfl rfl) evl_nil rfl) rfl rfl)) fun _ => rfl) evl_nil rfl) rfl rfl rfl))))))
abbrev st_filled : Stmt := top 15
theorem sc_filled : FnScope ["body", "parameters", "arguments"] ["body", "parameters", "arguments"] (defScope st_filled) := ⟨rfl, rfl, rfl, by decide +kernel, rfl, by decide +kernel, by decide +kernel⟩
def m_filled : MS := (sSeq (sIf (mnotT (mtru (mcall F_are_arguments 2 [] (mcons (mvar 2) (mcons (mfun false fLen (mcons (mvar 1) mnil)) mnil))))) sBad sPass)
  (sRet (mcall F_filled_body 2 [] (mcons (mvar 0) (mcons (mdzip false (mvar 1) (mvar 2)) mnil)))))
def F_filled : FunT := runB 3 m_filled
theorem ok_filled {f : Addr} {fd : FuncData} {dvs : List V} {kws : List (Str × V)} (T : TX C mg) (c_are_arguments_2 : CallOk C P w mg base CX0 3 "are_arguments" 2 F_are_arguments []) (c_filled_body_2 : CallOk C P w mg base CX0 25 "filled_body" 2 F_filled_body []) (FD : FunD C.K "filled" "filled" (defArgs st_filled) (defBody st_filled) (defScope st_filled) dvs kws f fd) : FnG P w C.K mg base CX0 26 f fd ["body", "parameters", "arguments"] (spM C 3 F_filled) :=
  fn_ok (k := 25) (m := m_filled) FD sc_filled rfl rfl rfl fun cdv A outer s H E hr =>
  (evss_cons (evs_if (evt_not (evt_tru rfl (ev_user rfl c_are_arguments_2 hr rfl rfl (fun _ => passAt0) (evl_cons (ev_pv rfl rfl rfl rfl) (evl_cons (ev_B (fn_len rfl) T.z_len rfl bb_len (evl_cons (ev_pv rfl rfl rfl rfl) evl_nil rfl) rfl rfl rfl) evl_nil rfl) rfl) rfl rfl) rfl)) (evss_one evs_bad) evss_nil)
  (evss_one (evs_ret (ev_user rfl c_filled_body_2 hr rfl rfl (fun _ => passAt0) (evl_cons (ev_pv rfl rfl rfl rfl) (evl_cons (ev_dictzip rfl rfl T.z_dict rfl bt_dict T.z_zip rfl (ev_pv rfl rfl rfl rfl) (ev_pv rfl rfl rfl rfl) rfl rfl) evl_nil rfl) rfl) rfl rfl))))
abbrev st_placed : Stmt := top 16
theorem sc_placed : GScope ["body", "place", "module", "there", "position", "item", "own_place"] ["body", "place", "module", "there"] (defScope st_placed) := ⟨rfl, rfl, rfl, by decide +kernel, rfl, by decide +kernel, by decide +kernel⟩
def m_placed (G_placed : GenT) : MGn := (gFor (ienum (mvar 0)) (gtup [(gname 4), (gname 5)]) (gSeq (gQ (sAsg (mtup (mstar (mvar 1) (mcons (mvar 4) mnil))) (gname 6)))
  (gSeq (gYield (mtup (mcons (mvar 6) (mcons (mvar 2) (mcons (mvar 3) (mcons (mvar 5) mnil))))))
  (gIf (mbl (mop2 false oEq (mop2 false oIx (mvar 5) (mc (.int 0))) (mc (.str "mod")))) (gFrom G_placed 4 (mcons (mop2 false oIx (mvar 5) (mc (.int 2))) (mcons (mvar 6) (mcons (mvar 6) (mcons (mvar 3) mnil))))) (gQ sPass)))))
theorem ok_placed {n : Nat} {G_placed : GenT} {f : Addr} {fd : FuncData} {dvs : List V} {kws : List (Str × V)} (T : TX C mg) (c_placed_4 : CallGen C P w mg base (0 + 2 * n) "placed" 4 G_placed) (FD : FunD C.K "placed" "placed" (defArgs st_placed) (defBody st_placed) (defScope st_placed) dvs kws f fd) : GFnP P w C.K mg base ((0 + (2 * n + 1)) + 1) f fd ["body", "place", "module", "there"] (spG C 4 (runG 7 (m_placed G_placed))) :=
  gfn_ok (k := (0 + (2 * n + 1))) (m := (m_placed G_placed)) FD sc_placed rfl rfl rfl fun cdv A outer s H ex hr =>
  (evgs_one (evg_for rfl (evi_enum rfl T.z_enumerate rfl (ev_pv rfl rfl rfl rfl) rfl) (evg_tup rfl rfl (evgs_cons (evg_n (i := 4) sc_placed.nd rfl rfl) (evgs_cons (evg_n (i := 5) sc_placed.nd rfl rfl) evgs_nil rfl) rfl) rfl rfl) (RP.evgs_cons (evg_q (evs_asg (ev_tup (evl_star rfl (ev_pv rfl rfl rfl rfl) (evl_cons (ev_pv rfl rfl rfl rfl) evl_nil rfl))) (evg_n (i := 6) sc_placed.nd rfl rfl) rfl))
  (RP.evgs_cons (evg_yield (ev_tup (evl_cons (ev_pv rfl rfl rfl rfl) (evl_cons (ev_pv rfl rfl rfl rfl) (evl_cons (ev_pv rfl rfl rfl rfl) (evl_cons (ev_pv rfl rfl rfl rfl) evl_nil rfl) rfl) rfl) rfl)) rfl rfl)
  (evgs_one (evg_if (evt_cmp (ops_eq rfl hr.room64) (ev_ix (ix_ok rfl) (ev_pv rfl rfl rfl rfl) ev_int fun _ _ => rfl) (ev_str rfl) rfl) (evgs_one (evg_fromN rfl c_placed_4 hr (decide_eq_true (Nat.le_refl _)) rfl (evl_cons (ev_ix (ix_ok rfl) (ev_pv rfl rfl rfl rfl) ev_int fun _ _ => rfl) (evl_cons (ev_pv rfl rfl rfl rfl) (evl_cons (ev_pv rfl rfl rfl rfl) (evl_cons (ev_pv rfl rfl rfl rfl) evl_nil rfl) rfl) rfl) rfl) rfl rfl rfl)) (evgs_q evss_nil))))) fun _ => rfl))
def FF_placed : Nat → Nat → GenT
  | 0, _ => fun _ _ _ => none
  | n + 1, 0 => runG 7 (m_placed (FF_placed n 0))
  | _ + 1, _ => fun _ _ _ => none
def F_placed : GenT := FF_placed 12 0
abbrev st_expansion : Stmt := top 17
theorem sc_expansion : FnScope ["macro", "arguments", "place", "module", "home"] ["macro", "arguments", "place", "module", "home"] (defScope st_expansion) := ⟨rfl, rfl, rfl, by decide +kernel, rfl, by decide +kernel, by decide +kernel⟩
def m_expansion : MS := (sRet (mlistG false F_placed 4 (mcons (mcall F_filled 3 [] (mcons (mop2 false oIx (mvar 0) (mc (.int 3))) (mcons (mop2 false oIx (mvar 0) (mc (.int 2))) (mcons (mvar 1) mnil)))) (mcons (mvar 2) (mcons (mvar 3) (mcons (mvar 4) mnil))))))
def F_expansion : FunT := runL 5 m_expansion
theorem ok_expansion {f : Addr} {fd : FuncData} {dvs : List V} {kws : List (Str × V)} (T : TX C mg) (c_placed_4 : CallGen C P w mg base 24 "placed" 4 F_placed) (c_filled_3 : CallOk C P w mg base CX0 26 "filled" 3 F_filled []) (FD : FunD C.K "expansion" "expansion" (defArgs st_expansion) (defBody st_expansion) (defScope st_expansion) dvs kws f fd) : FnGP P w C.K mg base (26 + 1) f fd ["macro", "arguments", "place", "module", "home"] (spM C 5 F_expansion) :=
  fnp_ok (k := 26) (m := m_expansion) FD sc_expansion rfl rfl rfl fun cdv A outer s H hr =>
  (evssp_one (evsp_ret (evp_listN rfl c_placed_4 hr rfl T.z_list rfl rfl (evl_cons (ev_user rfl c_filled_3 hr rfl rfl (fun _ => passAt0) (evl_cons (ev_ix (ix_ok rfl) (ev_pv rfl rfl rfl rfl) ev_int fun _ _ => rfl) (evl_cons (ev_ix (ix_ok rfl) (ev_pv rfl rfl rfl rfl) ev_int fun _ _ => rfl) (evl_cons (ev_pv rfl rfl rfl rfl) evl_nil rfl) rfl) rfl) rfl rfl) (evl_cons (ev_pv rfl rfl rfl rfl) (evl_cons (ev_pv rfl rfl rfl rfl) (evl_cons (ev_pv rfl rfl rfl rfl) evl_nil rfl) rfl) rfl) rfl) rfl rfl)))
abbrev st__law_rng : Stmt := top 19
theorem sc__law_rng : FnScope ["_law_script", "_law_k", "_law_cell"] ["_law_script", "_law_k"] (defScope st__law_rng) := ⟨rfl, rfl, rfl, by decide +kernel, rfl, by decide +kernel, by decide +kernel⟩
def m__law_rng : MS := (sSeq (sAsg (mite (mbl (mop2 false oLt (mvar 1) (mfun false fLen (mcons (mvar 0) mnil)))) (mfun false fAbs (mcons (mop2 false oIx (mvar 0) (mvar 1)) mnil)) (mc (.int 0))) (gname 2))
  (sRet (mlst true (mcons (mfun false fMax (mcons (mc (.int 0)) (mcons (mop2 false oSub (mvar 2) (mop2 false oPow (mc (.int 10)) (mc (.int 18)))) mnil))) (mcons (mop2 false oAdd (mop2 false oMod (mop2 false oPow (mop2 false oAdd (mop2 false oAdd (mop2 false oMod (mvar 2) (mc (.int 2147483563))) (mop2 false oMul (mc (.int 4099)) (mvar 1))) (mc (.int 17))) (mc (.int 2))) (mc (.int 2147483549))) (mc (.int 1))) mnil)))))
def F__law_rng : FunT := runB 3 m__law_rng
theorem ok__law_rng {f : Addr} {fd : FuncData} {dvs : List V} {kws : List (Str × V)} (T : TX C mg) (FD : FunD C.K "_law_rng" "_law_rng" (defArgs st__law_rng) (defBody st__law_rng) (defScope st__law_rng) dvs kws f fd) : FnG P w C.K mg base CX0 1 f fd ["_law_script", "_law_k"] (spM C 2 F__law_rng) :=
  fn_ok (k := 0) (m := m__law_rng) FD sc__law_rng rfl rfl rfl fun cdv A outer s H E hr =>
  (evss_cons (evs_asg (ev_ite (evt_cmp (ops_cmp op_lt) (ev_pv rfl rfl rfl rfl) (ev_B (fn_len rfl) T.z_len rfl bb_len (evl_cons (ev_pv rfl rfl rfl rfl) evl_nil rfl) rfl rfl rfl) rfl) (ev_B (fn_abs) T.z_abs rfl bb_abs (evl_cons (ev_ix (ix_ok rfl) (ev_pv rfl rfl rfl rfl) (ev_pv rfl rfl rfl rfl) fun _ _ => rfl) evl_nil rfl) rfl rfl rfl) ev_int) (evg_n (i := 2) sc__law_rng.nd rfl rfl) rfl)
  (evss_one (evs_ret (ev_lst (evl_cons (ev_B (fn_max rfl) T.z_max rfl bb_max (evl_cons ev_int (evl_cons (ev_bin ops_sub (ev_pv rfl rfl rfl rfl) (ev_bin ops_pow ev_int ev_int)) evl_nil rfl) rfl) rfl rfl rfl) (evl_cons (ev_bin (ops_add rfl) (ev_bin ops_mod (ev_bin ops_pow (ev_bin (ops_add rfl) (ev_bin (ops_add rfl) (ev_bin ops_mod (ev_pv rfl rfl rfl rfl) ev_int) (ev_bin (ops_mul rfl) ev_int (ev_pv rfl rfl rfl rfl))) ev_int) ev_int) ev_int) ev_int) evl_nil rfl) rfl)))))
abbrev st__law_draw : Stmt := top 20
theorem sc__law_draw : FnScope ["_law_rng_here", "_law_many", "_law_digit"] ["_law_rng_here", "_law_many"] (defScope st__law_draw) := ⟨rfl, rfl, rfl, by decide +kernel, rfl, by decide +kernel, by decide +kernel⟩
def m__law_draw : MS := (sSeq (sIf (mbl (mop2 false oGt (mop2 false oIx (mvar 0) (mc (.int 0))) (mc (.int 0)))) (sSeq (sAsg (mfun false fDivmod (mcons (mop2 false oIx (mvar 0) (mc (.int 0))) (mcons (mvar 1) mnil))) (gtup [(gsub (mvar 0) (mc (.int 0))), (gname 2)]))
  (sRet (mvar 2))) sPass)
  (sSeq (sAsg (mop2 false oMod (mop2 false oAdd (mop2 false oMul (mop2 false oIx (mvar 0) (mc (.int 1))) (mc (.int 39373))) (mc (.int 9311))) (mc (.int 2147483629))) (gsub (mvar 0) (mc (.int 1))))
  (sRet (mop2 false oMod (mop2 false oFdiv (mop2 false oMod (mop2 false oMul (mop2 false oIx (mvar 0) (mc (.int 1))) (mop2 false oIx (mvar 0) (mc (.int 1)))) (mc (.int 2147483563))) (mc (.int 11))) (mvar 1)))))
def F__law_draw : FunT := runB 3 m__law_draw
theorem ok__law_draw {f : Addr} {fd : FuncData} {dvs : List V} {kws : List (Str × V)} (T : TX C mg) (FD : FunD C.K "_law_draw" "_law_draw" (defArgs st__law_draw) (defBody st__law_draw) (defScope st__law_draw) dvs kws f fd) : FnG P w C.K mg base CX0 1 f fd ["_law_rng_here", "_law_many"] (spM C 2 F__law_draw) :=
  fn_ok (k := 0) (m := m__law_draw) FD sc__law_draw rfl rfl rfl fun cdv A outer s H E hr =>
  (evss_cons (evs_if (evt_cmp (ops_cmp op_gt) (ev_ix (ix_ok rfl) (ev_pv rfl rfl rfl rfl) ev_int fun _ _ => rfl) ev_int rfl) (evss_cons (evs_asg (ev_B (fn_divmod) T.z_divmod rfl bb_divmod (evl_cons (ev_ix (ix_ok rfl) (ev_pv rfl rfl rfl rfl) ev_int fun _ _ => rfl) (evl_cons (ev_pv rfl rfl rfl rfl) evl_nil rfl) rfl) rfl rfl rfl) (evg_tup rfl rfl (evgs_cons (evg_sub (W := W0) (ev_pv rfl rfl rfl rfl) ev_int rfl) (evgs_cons (evg_n (i := 2) sc__law_draw.nd rfl rfl) evgs_nil rfl) rfl) rfl rfl) rfl)
  (evss_one (evs_ret (ev_pv rfl rfl rfl rfl)))) evss_nil)
  (evss_cons (evs_asg (ev_bin ops_mod (ev_bin (ops_add rfl) (ev_bin (ops_mul rfl) (ev_ix (ix_ok rfl) (ev_pv rfl rfl rfl rfl) ev_int fun _ _ => rfl) ev_int) ev_int) ev_int) (evg_sub (W := W0) (ev_pv rfl rfl rfl rfl) ev_int rfl) rfl)
  (evss_one (evs_ret (ev_bin ops_mod (ev_bin ops_fdiv (ev_bin ops_mod (ev_bin (ops_mul rfl) (ev_ix (ix_ok rfl) (ev_pv rfl rfl rfl rfl) ev_int fun _ _ => rfl) (ev_ix (ix_ok rfl) (ev_pv rfl rfl rfl rfl) ev_int fun _ _ => rfl)) ev_int) ev_int) (ev_pv rfl rfl rfl rfl))))))
abbrev st__law_name : Stmt := top 21
theorem sc__law_name : FnScope ["_law_rng_here", "_law_used", "_law_letters", "_law_turn", "_law_word", "_law_k"] ["_law_rng_here", "_law_used"] (defScope st__law_name) := ⟨rfl, rfl, rfl, by decide +kernel, rfl, by decide +kernel, by decide +kernel⟩
def m__law_name : MS := (sSeq (sAsg (mc (.str "abcdefghijklmnopqrstuvwxyz")) (gname 2))
  (sSeq (sFor (irng irange1 (mcons (mc (.int 3)) mnil)) (gname 3) (sSeq (sAsg (mmeth isStr fJoin (mc (.str "")) (mcons (mcomp false [5] (irng irange1 (mcons (mop2 false oIx (mlst false (mcons (mc (.int 1)) (mcons (mc (.int 1)) (mcons (mc (.int 2)) (mcons (mc (.int 8)) mnil))))) (mcall F__law_draw 2 [] (mcons (mvar 0) (mcons (mc (.int 4)) mnil)))) mnil)) (gname 5) yes (mop2 false oIx (mvar 2) (mcall F__law_draw 2 [] (mcons (mvar 0) (mcons (mc (.int 26)) mnil))))) mnil)) (gname 4))
  (sIf (mbl (mop2 false oNotIn (mvar 4) (mvar 1))) (sRet (mvar 4)) sPass)))
  (sRet (mop2 false oIx (mcomp false [4] (iseq (mcomp false [5] (irng irange1 (mcons (mc (.int 676)) mnil)) (gname 5) yes (mop2 false oAdd (mop2 false oAdd (mop2 false oIx (mvar 2) (mop2 false oFdiv (mvar 5) (mc (.int 26)))) (mop2 false oIx (mvar 2) (mop2 false oMod (mvar 5) (mc (.int 26))))) (mc (.str "x"))))) (gname 4) (mbl (mop2 false oNotIn (mvar 4) (mvar 1))) (mvar 4)) (mc (.int 0))))))
def F__law_name : FunT := runB 6 m__law_name
theorem ok__law_name {f : Addr} {fd : FuncData} {dvs : List V} {kws : List (Str × V)} (T : TX C mg) (c__law_draw_2 : CallOk C P w mg base CX0 1 "_law_draw" 2 F__law_draw []) (FD : FunD C.K "_law_name" "_law_name" (defArgs st__law_name) (defBody st__law_name) (defScope st__law_name) dvs kws f fd) : FnG P w C.K mg base CX0 2 f fd ["_law_rng_here", "_law_used"] (spM C 2 F__law_name) :=
  fn_ok (k := 1) (m := m__law_name) FD sc__law_name rfl rfl rfl fun cdv A outer s H E hr =>
  (evss_cons (evs_asg (ev_str rfl) (evg_c (i := 2) sc__law_name.nd rfl rfl rfl) rfl)
  (evss_cons (evs_for own_cx rfl (ev_rng1 T.z_range rfl ev_int rfl) (evg_n (i := 3) sc__law_name.nd rfl rfl) (evss_cons (evs_asg (ev_join rfl (ev_str rfl) (ev_comp (own := [("_law_k", 5)]) rfl sc__law_name.nd (by decide) (ev_rng1 T.z_range rfl (ev_ix (ix_ok rfl) (ev_lst (evl_cons ev_int (evl_cons ev_int (evl_cons ev_int (evl_cons ev_int evl_nil rfl) rfl) rfl) rfl)) (ev_user rfl c__law_draw_2 hr rfl rfl (fun _ => passAt0) (evl_cons (ev_pv rfl rfl rfl rfl) (evl_cons ev_int evl_nil rfl) rfl) rfl rfl) fun _ _ => rfl) rfl) (blkOk_by rfl) (fun s H Cc cl fp => (evg_n (i := 5) sc__law_name.nd rfl rfl)) (fun s H Cc cl fp => pts_nil) yes_t (fun s H Cc cl fp => (ev_ix (ix_ok rfl) (ev_pv rfl rfl rfl rfl) (ev_user rfl c__law_draw_2 hr rfl rfl (fun _ => passAt0) (evl_cons (ev_pv rfl rfl rfl rfl) (evl_cons ev_int evl_nil rfl) rfl) rfl rfl) fun _ _ => rfl)) fun _ => rfl) rfl rfl rfl) (evg_n (i := 4) sc__law_name.nd rfl rfl) rfl)
  (evss_one (evs_if (evt_cmp (ops_notIn rfl) (ev_pv rfl rfl rfl rfl) (ev_pv rfl rfl rfl rfl) rfl) (evss_one (evs_ret (ev_pv rfl rfl rfl rfl))) evss_nil))) fun _ => rfl)
  (evss_one (evs_ret (ev_ix (ix_ok rfl) (ev_comp (own := [("_law_word", 4)]) rfl sc__law_name.nd (by decide) (evi_seq rfl (ev_comp (own := [("_law_k", 5)]) rfl sc__law_name.nd (by decide) (ev_rng1 T.z_range rfl ev_int rfl) (blkOk_by rfl) (fun s H Cc cl fp => (evg_n (i := 5) sc__law_name.nd rfl rfl)) (fun s H Cc cl fp => pts_nil) yes_t (fun s H Cc cl fp => (ev_bin (ops_add rfl) (ev_bin (ops_add rfl) (ev_ix (ix_ok rfl) (ev_pv rfl rfl rfl rfl) (ev_bin ops_fdiv (ev_pv rfl rfl rfl rfl) ev_int) fun _ _ => rfl) (ev_ix (ix_ok rfl) (ev_pv rfl rfl rfl rfl) (ev_bin ops_mod (ev_pv rfl rfl rfl rfl) ev_int) fun _ _ => rfl)) (ev_str rfl))) fun _ => rfl)) (blkOk_by rfl) (fun s H Cc cl fp => (evg_n (i := 4) sc__law_name.nd rfl rfl)) (fun s H Cc cl fp => (pts_one (evt_cmp (ops_notIn rfl) (ev_pv rfl rfl rfl rfl) (ev_pv rfl rfl rfl rfl) rfl))) (fun _ _ _ z => z) (fun s H Cc cl fp => (ev_pv rfl rfl rfl rfl)) fun _ => rfl) ev_int fun _ _ => rfl)))))
abbrev st__law_names : Stmt := top 22
theorem sc__law_names : FnScope ["_law_rng_here", "_law_many", "_law_used", "_law_found", "_law_k"] ["_law_rng_here", "_law_many", "_law_used"] (defScope st__law_names) := ⟨rfl, rfl, rfl, by decide +kernel, rfl, by decide +kernel, by decide +kernel⟩
def m__law_names : MS := (sSeq (sAsg (mlst true mnil) (gname 3))
  (sSeq (sFor (irng irange1 (mcons (mvar 1) mnil)) (gname 4) (sExpr (mmeth isLst fAppend (mvar 3) (mcons (mcall F__law_name 2 [] (mcons (mvar 0) (mcons (mop2 false oAdd (mvar 2) (mvar 3)) mnil))) mnil))))
  (sRet (mfz (mvar 3)))))
def F__law_names : FunT := runB 5 m__law_names
theorem ok__law_names {f : Addr} {fd : FuncData} {dvs : List V} {kws : List (Str × V)} (T : TX C mg) (c__law_name_2 : CallOk C P w mg base CX0 2 "_law_name" 2 F__law_name []) (FD : FunD C.K "_law_names" "_law_names" (defArgs st__law_names) (defBody st__law_names) (defScope st__law_names) dvs kws f fd) : FnG P w C.K mg base CX0 3 f fd ["_law_rng_here", "_law_many", "_law_used"] (spM C 3 F__law_names) :=
  fn_ok (k := 2) (m := m__law_names) FD sc__law_names rfl rfl rfl fun cdv A outer s H E hr =>
  (evss_cons (evs_asg (ev_lst evl_nil) (evg_n (i := 3) sc__law_names.nd rfl rfl) rfl)
  (evss_cons (evs_for own_cx rfl (ev_rng1 T.z_range rfl (ev_pv rfl rfl rfl rfl) rfl) (evg_n (i := 4) sc__law_names.nd rfl rfl) (evss_one (evs_expr (ev_append rfl (ev_pv rfl rfl rfl rfl) (ev_user rfl c__law_name_2 hr rfl rfl (fun _ => passAt0) (evl_cons (ev_pv rfl rfl rfl rfl) (evl_cons (ev_bin (ops_add rfl) (ev_pv rfl rfl rfl rfl) (ev_pv rfl rfl rfl rfl)) evl_nil rfl) rfl) rfl rfl) rfl rfl rfl) rfl)) fun _ => rfl)
  (evss_one (evs_ret (ev_fz (ev_pv rfl rfl rfl rfl))))))
abbrev st__law_spot : Stmt := top 23
theorem sc__law_spot : FnScope ["_law_rng_here", "_law_found", "_law_k"] ["_law_rng_here"] (defScope st__law_spot) := ⟨rfl, rfl, rfl, by decide +kernel, rfl, by decide +kernel, by decide +kernel⟩
def m__law_spot : MS := (sSeq (sAsg (mfun false fTuple (mcons (mcomp false [2] (irng irange1 (mcons (mcall F__law_draw 2 [] (mcons (mvar 0) (mcons (mc (.int 4)) mnil))) mnil)) (gname 2) yes (mop2 false oIx (mlst false (mcons (mc (.int 0)) (mcons (mc (.int 1)) (mcons (mc (.int 2)) (mcons (mc (.int 19)) (mcons (mop2 false oPow (mc (.int 10)) (mc (.int 20))) mnil)))))) (mcall F__law_draw 2 [] (mcons (mvar 0) (mcons (mc (.int 5)) mnil))))) mnil)) (gname 1))
  (sRet (mop2 false oMul (mvar 1) (mop2 false oIx (mlst false (mcons (mc (.int 1)) (mcons (mc (.int 1)) (mcons (mc (.int 1)) (mcons (mc (.int 12)) mnil))))) (mcall F__law_draw 2 [] (mcons (mvar 0) (mcons (mc (.int 4)) mnil)))))))
def F__law_spot : FunT := runB 3 m__law_spot
theorem ok__law_spot {f : Addr} {fd : FuncData} {dvs : List V} {kws : List (Str × V)} (T : TX C mg) (c__law_draw_2 : CallOk C P w mg base CX0 1 "_law_draw" 2 F__law_draw []) (FD : FunD C.K "_law_spot" "_law_spot" (defArgs st__law_spot) (defBody st__law_spot) (defScope st__law_spot) dvs kws f fd) : FnG P w C.K mg base CX0 2 f fd ["_law_rng_here"] (spM C 1 F__law_spot) :=
  fn_ok (k := 1) (m := m__law_spot) FD sc__law_spot rfl rfl rfl fun cdv A outer s H E hr =>
  (evss_cons (evs_asg (ev_T (fn_tuple rfl) T.z_tuple rfl bt_tuple (evl_cons (ev_comp (own := [("_law_k", 2)]) rfl sc__law_spot.nd (by decide) (ev_rng1 T.z_range rfl (ev_user rfl c__law_draw_2 hr rfl rfl (fun _ => passAt0) (evl_cons (ev_pv rfl rfl rfl rfl) (evl_cons ev_int evl_nil rfl) rfl) rfl rfl) rfl) (blkOk_by rfl) (fun s H Cc cl fp => (evg_n (i := 2) sc__law_spot.nd rfl rfl)) (fun s H Cc cl fp => pts_nil) yes_t (fun s H Cc cl fp => (ev_ix (ix_ok rfl) (ev_lst (evl_cons ev_int (evl_cons ev_int (evl_cons ev_int (evl_cons ev_int (evl_cons (ev_bin ops_pow ev_int ev_int) evl_nil rfl) rfl) rfl) rfl) rfl)) (ev_user rfl c__law_draw_2 hr rfl rfl (fun _ => passAt0) (evl_cons (ev_pv rfl rfl rfl rfl) (evl_cons ev_int evl_nil rfl) rfl) rfl rfl) fun _ _ => rfl)) fun _ => rfl) evl_nil rfl) rfl rfl rfl) (evg_n (i := 1) sc__law_spot.nd rfl rfl) rfl)
  (evss_one (evs_ret (ev_bin (ops_mul rfl) (ev_pv rfl rfl rfl rfl) (ev_ix (ix_ok rfl) (ev_lst (evl_cons ev_int (evl_cons ev_int (evl_cons ev_int (evl_cons ev_int evl_nil rfl) rfl) rfl) rfl)) (ev_user rfl c__law_draw_2 hr rfl rfl (fun _ => passAt0) (evl_cons (ev_pv rfl rfl rfl rfl) (evl_cons ev_int evl_nil rfl) rfl) rfl rfl) fun _ _ => rfl)))))
abbrev st__law_macro : Stmt := top 24
theorem sc__law_macro : FnScope ["_law_one", "_law_two", "_law_lines", "_law_near", "_law_body"] ["_law_one", "_law_two"] (defScope st__law_macro) := ⟨rfl, rfl, rfl, by decide +kernel, rfl, by decide +kernel, by decide +kernel⟩
def m__law_macro : MS := (sSeq (sAsg (mtup (mcons (mtup (mcons (mc (.str "use")) (mcons (mc (.str "B")) (mcons (mtup (mcons (mc (.str "there")) (mcons (mc (.str "A")) (mcons (mc (.str "B")) mnil)))) (mcons (mc (.bl false)) mnil))))) (mcons (mtup (mcons (mc (.str "call")) (mcons (mtup (mcons (mc (.str "there")) (mcons (mvar 1) mnil))) (mcons (mtup (mcons (mc (.str "A")) (mcons (mc (.str "B")) mnil))) mnil)))) mnil))) (gname 2))
  (sSeq (sAsg (mtup (mcons (mtup (mcons (mc (.str "macro")) (mcons (mc (.str "deep")) (mcons (mtup (mcons (mc (.str "B")) mnil)) (mcons (mvar 2) (mcons (mc (.bl true)) mnil)))))) (mcons (mtup (mcons (mc (.str "glob")) (mcons (mtup (mcons (mc (.str "there")) mnil)) (mcons (mc (.bl false)) mnil)))) mnil))) (gname 3))
  (sSeq (sAsg (mtup (mcons (mtup (mcons (mc (.str "use")) (mcons (mc (.str "A")) (mcons (mtup (mcons (mc (.str "there")) (mcons (mvar 0) mnil))) (mcons (mc (.bl true)) mnil))))) (mcons (mtup (mcons (mc (.str "mod")) (mcons (mc (.str "near")) (mcons (mvar 3) (mcons (mc (.bl false)) mnil))))) mnil))) (gname 4))
  (sRet (mtup (mcons (mc (.str "macro")) (mcons (mc (.str "wide")) (mcons (mtup (mcons (mc (.str "A")) mnil)) (mcons (mtup (mcons (mtup (mcons (mc (.str "mod")) (mcons (mc (.str "A")) (mcons (mvar 4) (mcons (mc (.bl true)) mnil))))) (mcons (mtup (mcons (mc (.str "fn")) (mcons (mvar 1) (mcons (mtup (mcons (mc (.str "ref")) (mcons (mtup (mcons (mc (.str "there")) (mcons (mc (.str "A")) mnil))) mnil))) (mcons (mc (.bl true)) mnil))))) mnil))) (mcons (mc (.bl false)) mnil))))))))))
def F__law_macro : FunT := runB 5 m__law_macro
theorem ok__law_macro {f : Addr} {fd : FuncData} {dvs : List V} {kws : List (Str × V)} (T : TX C mg) (FD : FunD C.K "_law_macro" "_law_macro" (defArgs st__law_macro) (defBody st__law_macro) (defScope st__law_macro) dvs kws f fd) : FnG P w C.K mg base CX0 1 f fd ["_law_one", "_law_two"] (spM C 2 F__law_macro) :=
  fn_ok (k := 0) (m := m__law_macro) FD sc__law_macro rfl rfl rfl fun cdv A outer s H E hr =>
  (evss_cons (evs_asg (ev_tup (evl_cons (ev_tup (evl_cons (ev_str rfl) (evl_cons (ev_str rfl) (evl_cons (ev_tup (evl_cons (ev_str rfl) (evl_cons (ev_str rfl) (evl_cons (ev_str rfl) evl_nil rfl) rfl) rfl)) (evl_cons ev_bl evl_nil rfl) rfl) rfl) rfl)) (evl_cons (ev_tup (evl_cons (ev_str rfl) (evl_cons (ev_tup (evl_cons (ev_str rfl) (evl_cons (ev_pv rfl rfl rfl rfl) evl_nil rfl) rfl)) (evl_cons (ev_tup (evl_cons (ev_str rfl) (evl_cons (ev_str rfl) evl_nil rfl) rfl)) evl_nil rfl) rfl) rfl)) evl_nil rfl) rfl)) (evg_n (i := 2) sc__law_macro.nd rfl rfl) rfl)
  (evss_cons (evs_asg (ev_tup (evl_cons (ev_tup (evl_cons (ev_str rfl) (evl_cons (ev_str rfl) (evl_cons (ev_tup (evl_cons (ev_str rfl) evl_nil rfl)) (evl_cons (ev_pv rfl rfl rfl rfl) (evl_cons ev_bl evl_nil rfl) rfl) rfl) rfl) rfl)) (evl_cons (ev_tup (evl_cons (ev_str rfl) (evl_cons (ev_tup (evl_cons (ev_str rfl) evl_nil rfl)) (evl_cons ev_bl evl_nil rfl) rfl) rfl)) evl_nil rfl) rfl)) (evg_n (i := 3) sc__law_macro.nd rfl rfl) rfl)
  (evss_cons (evs_asg (ev_tup (evl_cons (ev_tup (evl_cons (ev_str rfl) (evl_cons (ev_str rfl) (evl_cons (ev_tup (evl_cons (ev_str rfl) (evl_cons (ev_pv rfl rfl rfl rfl) evl_nil rfl) rfl)) (evl_cons ev_bl evl_nil rfl) rfl) rfl) rfl)) (evl_cons (ev_tup (evl_cons (ev_str rfl) (evl_cons (ev_str rfl) (evl_cons (ev_pv rfl rfl rfl rfl) (evl_cons ev_bl evl_nil rfl) rfl) rfl) rfl)) evl_nil rfl) rfl)) (evg_n (i := 4) sc__law_macro.nd rfl rfl) rfl)
  (evss_one (evs_ret (ev_tup (evl_cons (ev_str rfl) (evl_cons (ev_str rfl) (evl_cons (ev_tup (evl_cons (ev_str rfl) evl_nil rfl)) (evl_cons (ev_tup (evl_cons (ev_tup (evl_cons (ev_str rfl) (evl_cons (ev_str rfl) (evl_cons (ev_pv rfl rfl rfl rfl) (evl_cons ev_bl evl_nil rfl) rfl) rfl) rfl)) (evl_cons (ev_tup (evl_cons (ev_str rfl) (evl_cons (ev_pv rfl rfl rfl rfl) (evl_cons (ev_tup (evl_cons (ev_str rfl) (evl_cons (ev_tup (evl_cons (ev_str rfl) (evl_cons (ev_str rfl) evl_nil rfl) rfl)) evl_nil rfl) rfl)) (evl_cons ev_bl evl_nil rfl) rfl) rfl) rfl)) evl_nil rfl) rfl)) (evl_cons ev_bl evl_nil rfl) rfl) rfl) rfl) rfl)))))))
abbrev st__law_right : Stmt := top 25
theorem sc__law_right : FnScope ["_law_rng_here", "_law_one", "_law_two", "_law_three", "_law_four", "_law_call", "_law_module", "_law_home", "_law_later", "_law_told", "_law_wide", "_law_near", "_law_inner", "_law_due", "_law_rows", "_law_k", "_law_entry"] ["_law_rng_here"] (defScope st__law_right) := ⟨rfl, rfl, rfl, by decide +kernel, rfl, by decide +kernel, by decide +kernel⟩
def m__law_right : MS := (sSeq (sAsg (mcall F__law_names 3 [] (mcons (mvar 0) (mcons (mc (.int 4)) (mcons (mlst false (mcons (mc (.str "near")) (mcons (mc (.str "deep")) (mcons (mc (.str "wide")) mnil)))) mnil)))) (gtup [(gname 1), (gname 2), (gname 3), (gname 4)]))
  (sSeq (sAsg (mcomp false [15] (irng irange1 (mcons (mc (.int 4)) mnil)) (gname 15) yes (mcall F__law_spot 1 [] (mcons (mvar 0) mnil))) (gtup [(gname 5), (gname 6), (gname 7), (gname 8)]))
  (sSeq (sAsg (mcall F_expansion 5 [] (mcons (mcall F__law_macro 2 [] (mcons (mvar 1) (mcons (mvar 2) mnil))) (mcons (mtup (mcons (mvar 3) mnil)) (mcons (mvar 5) (mcons (mvar 6) (mcons (mvar 7) mnil)))))) (gname 9))
  (sSeq (sPar2 10 11 (mcons (mop2 false oAdd (mvar 5) (mtup (mcons (mc (.int 0)) mnil))) (mcons (mop2 false oAdd (mvar 5) (mtup (mcons (mc (.int 0)) (mcons (mc (.int 1)) mnil)))) mnil)))
  (sSeq (sIf (mbl (mop2 false oNe (mcomp false [16] (iseq (mvar 9)) (gname 16) yes (mop2 false oIx (mvar 16) (mc (.int 0)))) (mlst false (mcons (mvar 10) (mcons (mop2 false oAdd (mvar 10) (mtup (mcons (mc (.int 0)) mnil))) (mcons (mvar 11) (mcons (mop2 false oAdd (mvar 11) (mtup (mcons (mc (.int 0)) mnil))) (mcons (mop2 false oAdd (mvar 11) (mtup (mcons (mc (.int 1)) mnil))) (mcons (mop2 false oAdd (mvar 5) (mtup (mcons (mc (.int 1)) mnil))) mnil))))))))) (sRet (mc (.bl false))) sPass)
  (sSeq (sIf (mbl (mop2 false oNe (mcomp false [16] (iseq (mvar 9)) (gname 16) yes (mop2 false oIx (mvar 16) (mc (.int 1)))) (mlst false (mcons (mvar 6) (mcons (mvar 10) (mcons (mvar 10) (mcons (mvar 11) (mcons (mvar 11) (mcons (mvar 6) mnil))))))))) (sRet (mc (.bl false))) sPass)
  (sSeq (sIf (morT (mbl (mop2 false oNe (mcomp false [16] (iseq (mvar 9)) (gname 16) yes (mop2 false oIx (mvar 16) (mc (.int 2)))) (mop2 false oMul (mlst false (mcons (mvar 7) mnil)) (mc (.int 6))))) (mbl (mop2 false oNe (mop2 false oIx (mop2 false oIx (mop2 false oIx (mvar 9) (mc (.int 0))) (mc (.int 3))) (mc (.int 1))) (mvar 3)))) (sRet (mc (.bl false))) sPass)
  (sSeq (sIf (mbl (mop2 false oNe (mop2 false oIx (mop2 false oIx (mvar 9) (mc (.int 1))) (mc (.int 3))) (mtup (mcons (mc (.str "use")) (mcons (mvar 3) (mcons (mtup (mcons (mc (.str "there")) (mcons (mvar 1) mnil))) (mcons (mc (.bl true)) mnil))))))) (sRet (mc (.bl false))) sPass)
  (sSeq (sIf (morT (mbl (mop2 false oNe (mop2 false oIx (mop2 false oIx (mvar 9) (mc (.int 4))) (mc (.int 3))) (mtup (mcons (mc (.str "glob")) (mcons (mtup (mcons (mc (.str "there")) mnil)) (mcons (mc (.bl false)) mnil)))))) (mbl (mop2 false oNe (mop2 false oIx (mop2 false oIx (mvar 9) (mc (.int 5))) (mc (.int 3))) (mtup (mcons (mc (.str "fn")) (mcons (mvar 2) (mcons (mtup (mcons (mc (.str "ref")) (mcons (mtup (mcons (mc (.str "there")) (mcons (mvar 3) mnil))) mnil))) (mcons (mc (.bl true)) mnil)))))))) (sRet (mc (.bl false))) sPass)
  (sSeq (sAsg (mop2 false oIx (mop2 false oIx (mvar 9) (mc (.int 3))) (mc (.int 3))) (gname 12))
  (sSeq (sAsg (mtup (mcons (mtup (mcons (mc (.str "use")) (mcons (mc (.str "B")) (mcons (mtup (mcons (mc (.str "there")) (mcons (mvar 3) (mcons (mc (.str "B")) mnil)))) (mcons (mc (.bl false)) mnil))))) (mcons (mtup (mcons (mc (.str "call")) (mcons (mtup (mcons (mc (.str "there")) (mcons (mvar 2) mnil))) (mcons (mtup (mcons (mvar 3) (mcons (mc (.str "B")) mnil))) mnil)))) mnil))) (gname 13))
  (sSeq (sIf (mbl (mop2 false oNe (mvar 12) (mtup (mcons (mc (.str "macro")) (mcons (mc (.str "deep")) (mcons (mtup (mcons (mc (.str "B")) mnil)) (mcons (mvar 13) (mcons (mc (.bl true)) mnil)))))))) (sRet (mc (.bl false))) sPass)
  (sSeq (sAsg (mlst true (mcons (mtup (mcons (mop2 false oAdd (mvar 8) (mtup (mcons (mc (.int 0)) mnil))) (mcons (mvar 5) (mcons (mvar 11) (mcons (mtup (mcons (mc (.str "use")) (mcons (mvar 4) (mcons (mtup (mcons (mc (.str "there")) (mcons (mvar 3) (mcons (mvar 4) mnil)))) (mcons (mc (.bl false)) mnil))))) mnil))))) mnil)) (gname 14))
  (sSeq (sExpr (mmeth isLst fAppend (mvar 14) (mcons (mtup (mcons (mop2 false oAdd (mvar 8) (mtup (mcons (mc (.int 1)) mnil))) (mcons (mvar 5) (mcons (mvar 11) (mcons (mtup (mcons (mc (.str "call")) (mcons (mtup (mcons (mc (.str "there")) (mcons (mvar 2) mnil))) (mcons (mtup (mcons (mvar 3) (mcons (mvar 4) mnil))) mnil)))) mnil))))) mnil)))
  (sRet (mop2 false oEq (mfun false fReprA (mcons (mcall F_expansion 5 [] (mcons (mvar 12) (mcons (mtup (mcons (mvar 4) mnil)) (mcons (mvar 8) (mcons (mvar 5) (mcons (mop2 false oIx (mop2 false oIx (mvar 9) (mc (.int 3))) (mc (.int 1))) mnil)))))) mnil)) (mfun false fReprA (mcons (mvar 14) mnil))))))))))))))))))
def F__law_right : FunT := runL 17 m__law_right
theorem ok__law_right {f : Addr} {fd : FuncData} {dvs : List V} {kws : List (Str × V)} (T : TX C mg) (c__law_names_3 : CallOk C P w mg base CX0 3 "_law_names" 3 F__law_names []) (c__law_spot_1 : CallOk C P w mg base CX0 2 "_law_spot" 1 F__law_spot []) (c_expansion_5 : CallLd C P w mg base 27 "expansion" 5 F_expansion []) (c__law_macro_2 : CallOk C P w mg base CX0 1 "_law_macro" 2 F__law_macro []) (FD : FunD C.K "_law_right" "_law_right" (defArgs st__law_right) (defBody st__law_right) (defScope st__law_right) dvs kws f fd) : FnGP P w C.K mg base (27 + 1) f fd ["_law_rng_here"] (spM C 1 F__law_right) :=
  fnp_ok (k := 27) (m := m__law_right) FD sc__law_right rfl rfl rfl fun cdv A outer s H hr =>
  (evssp_cons (psp_of (evs_asg (ev_user rfl c__law_names_3 hr rfl rfl (fun _ => passAt0) (evl_cons (ev_pv rfl rfl rfl rfl) (evl_cons ev_int (evl_cons (ev_lst (evl_cons (ev_str rfl) (evl_cons (ev_str rfl) (evl_cons (ev_str rfl) evl_nil rfl) rfl) rfl)) evl_nil rfl) rfl) rfl) rfl rfl) (evg_tup rfl rfl (evgs_cons (evg_n (i := 1) sc__law_right.nd rfl rfl) (evgs_cons (evg_n (i := 2) sc__law_right.nd rfl rfl) (evgs_cons (evg_n (i := 3) sc__law_right.nd rfl rfl) (evgs_cons (evg_n (i := 4) sc__law_right.nd rfl rfl) evgs_nil rfl) rfl) rfl) rfl) rfl rfl) rfl))
  (evssp_cons (psp_of (evs_asg (ev_comp (own := [("_law_k", 15)]) rfl sc__law_right.nd (by decide) (ev_rng1 T.z_range rfl ev_int rfl) (blkOk_by rfl) (fun s H Cc cl fp => (evg_n (i := 15) sc__law_right.nd rfl rfl)) (fun s H Cc cl fp => pts_nil) yes_t (fun s H Cc cl fp => (ev_user rfl c__law_spot_1 hr rfl rfl (fun _ => passAt0) (evl_cons (ev_pv rfl rfl rfl rfl) evl_nil rfl) rfl rfl)) fun _ => rfl) (evg_tup rfl rfl (evgs_cons (evg_n (i := 5) sc__law_right.nd rfl rfl) (evgs_cons (evg_n (i := 6) sc__law_right.nd rfl rfl) (evgs_cons (evg_n (i := 7) sc__law_right.nd rfl rfl) (evgs_cons (evg_n (i := 8) sc__law_right.nd rfl rfl) evgs_nil rfl) rfl) rfl) rfl) rfl rfl) rfl))
  (evssp_cons (evsp_asg (evp_user rfl c_expansion_5 hr rfl rfl (pap_of (evl_cons (ev_user rfl c__law_macro_2 hr rfl rfl (fun _ => passAt0) (evl_cons (ev_pv rfl rfl rfl rfl) (evl_cons (ev_pv rfl rfl rfl rfl) evl_nil rfl) rfl) rfl rfl) (evl_cons (ev_tup (evl_cons (ev_pv rfl rfl rfl rfl) evl_nil rfl)) (evl_cons (ev_pv rfl rfl rfl rfl) (evl_cons (ev_pv rfl rfl rfl rfl) (evl_cons (ev_pv rfl rfl rfl rfl) evl_nil rfl) rfl) rfl) rfl) rfl)) rfl rfl) (evg_n (i := 9) sc__law_right.nd rfl rfl) rfl)
  (evssp_cons (psp_of (evs_par2 (i := 10) (j := 11) rfl sc__law_right.nd rfl rfl (by decide) rfl rfl (evl_cons (ev_bin (ops_add rfl) (ev_pv rfl rfl rfl rfl) (ev_tup (evl_cons ev_int evl_nil rfl))) (evl_cons (ev_bin (ops_add rfl) (ev_pv rfl rfl rfl rfl) (ev_tup (evl_cons ev_int (evl_cons ev_int evl_nil rfl) rfl))) evl_nil rfl) rfl) rfl rfl))
  (evssp_cons (psp_of (evs_if (evt_cmp (ops_ne rfl hr.room64) (ev_comp (own := [("_law_entry", 16)]) rfl sc__law_right.nd (by decide) (evi_seq rfl (ev_pv rfl rfl rfl rfl)) (blkOk_by rfl) (fun s H Cc cl fp => (evg_n (i := 16) sc__law_right.nd rfl rfl)) (fun s H Cc cl fp => pts_nil) yes_t (fun s H Cc cl fp => (ev_ix (ix_ok rfl) (ev_pv rfl rfl rfl rfl) ev_int fun _ _ => rfl)) fun _ => rfl) (ev_lst (evl_cons (ev_pv rfl rfl rfl rfl) (evl_cons (ev_bin (ops_add rfl) (ev_pv rfl rfl rfl rfl) (ev_tup (evl_cons ev_int evl_nil rfl))) (evl_cons (ev_pv rfl rfl rfl rfl) (evl_cons (ev_bin (ops_add rfl) (ev_pv rfl rfl rfl rfl) (ev_tup (evl_cons ev_int evl_nil rfl))) (evl_cons (ev_bin (ops_add rfl) (ev_pv rfl rfl rfl rfl) (ev_tup (evl_cons ev_int evl_nil rfl))) (evl_cons (ev_bin (ops_add rfl) (ev_pv rfl rfl rfl rfl) (ev_tup (evl_cons ev_int evl_nil rfl))) evl_nil rfl) rfl) rfl) rfl) rfl) rfl)) rfl) (evss_one (evs_ret ev_bl)) evss_nil))
  (evssp_cons (psp_of (evs_if (evt_cmp (ops_ne rfl hr.room64) (ev_comp (own := [("_law_entry", 16)]) rfl sc__law_right.nd (by decide) (evi_seq rfl (ev_pv rfl rfl rfl rfl)) (blkOk_by rfl) (fun s H Cc cl fp => (evg_n (i := 16) sc__law_right.nd rfl rfl)) (fun s H Cc cl fp => pts_nil) yes_t (fun s H Cc cl fp => (ev_ix (ix_ok rfl) (ev_pv rfl rfl rfl rfl) ev_int fun _ _ => rfl)) fun _ => rfl) (ev_lst (evl_cons (ev_pv rfl rfl rfl rfl) (evl_cons (ev_pv rfl rfl rfl rfl) (evl_cons (ev_pv rfl rfl rfl rfl) (evl_cons (ev_pv rfl rfl rfl rfl) (evl_cons (ev_pv rfl rfl rfl rfl) (evl_cons (ev_pv rfl rfl rfl rfl) evl_nil rfl) rfl) rfl) rfl) rfl) rfl)) rfl) (evss_one (evs_ret ev_bl)) evss_nil))
  (evssp_cons (psp_of (evs_if ((evt_or (evt_cmp (ops_ne rfl hr.room64) (ev_comp (own := [("_law_entry", 16)]) rfl sc__law_right.nd (by decide) (evi_seq rfl (ev_pv rfl rfl rfl rfl)) (blkOk_by rfl) (fun s H Cc cl fp => (evg_n (i := 16) sc__law_right.nd rfl rfl)) (fun s H Cc cl fp => pts_nil) yes_t (fun s H Cc cl fp => (ev_ix (ix_ok rfl) (ev_pv rfl rfl rfl rfl) ev_int fun _ _ => rfl)) fun _ => rfl) (ev_bin (ops_mul rfl) (ev_lst (evl_cons (ev_pv rfl rfl rfl rfl) evl_nil rfl)) ev_int) rfl) (pw_or1 (evt_cmp (ops_ne rfl hr.room64) (ev_ix (ix_ok rfl) (ev_ix (ix_ok rfl) (ev_ix (ix_ok rfl) (ev_pv rfl rfl rfl rfl) ev_int fun _ _ => rfl) ev_int fun _ _ => rfl) ev_int fun _ _ => rfl) (ev_pv rfl rfl rfl rfl) rfl)))).pt (evss_one (evs_ret ev_bl)) evss_nil))
  (evssp_cons (psp_of (evs_if (evt_cmp (ops_ne rfl hr.room64) (ev_ix (ix_ok rfl) (ev_ix (ix_ok rfl) (ev_pv rfl rfl rfl rfl) ev_int fun _ _ => rfl) ev_int fun _ _ => rfl) (ev_tup (evl_cons (ev_str rfl) (evl_cons (ev_pv rfl rfl rfl rfl) (evl_cons (ev_tup (evl_cons (ev_str rfl) (evl_cons (ev_pv rfl rfl rfl rfl) evl_nil rfl) rfl)) (evl_cons ev_bl evl_nil rfl) rfl) rfl) rfl)) rfl) (evss_one (evs_ret ev_bl)) evss_nil))
  (evssp_cons (psp_of (evs_if ((evt_or (evt_cmp (ops_ne rfl hr.room64) (ev_ix (ix_ok rfl) (ev_ix (ix_ok rfl) (ev_pv rfl rfl rfl rfl) ev_int fun _ _ => rfl) ev_int fun _ _ => rfl) (ev_tup (evl_cons (ev_str rfl) (evl_cons (ev_tup (evl_cons (ev_str rfl) evl_nil rfl)) (evl_cons ev_bl evl_nil rfl) rfl) rfl)) rfl) (pw_or1 (evt_cmp (ops_ne rfl hr.room64) (ev_ix (ix_ok rfl) (ev_ix (ix_ok rfl) (ev_pv rfl rfl rfl rfl) ev_int fun _ _ => rfl) ev_int fun _ _ => rfl) (ev_tup (evl_cons (ev_str rfl) (evl_cons (ev_pv rfl rfl rfl rfl) (evl_cons (ev_tup (evl_cons (ev_str rfl) (evl_cons (ev_tup (evl_cons (ev_str rfl) (evl_cons (ev_pv rfl rfl rfl rfl) evl_nil rfl) rfl)) evl_nil rfl) rfl)) (evl_cons ev_bl evl_nil rfl) rfl) rfl) rfl)) rfl)))).pt (evss_one (evs_ret ev_bl)) evss_nil))
  (evssp_cons (psp_of (evs_asg (ev_ix (ix_ok rfl) (ev_ix (ix_ok rfl) (ev_pv rfl rfl rfl rfl) ev_int fun _ _ => rfl) ev_int fun _ _ => rfl) (evg_n (i := 12) sc__law_right.nd rfl rfl) rfl))
  (evssp_cons (psp_of (evs_asg (ev_tup (evl_cons (ev_tup (evl_cons (ev_str rfl) (evl_cons (ev_str rfl) (evl_cons (ev_tup (evl_cons (ev_str rfl) (evl_cons (ev_pv rfl rfl rfl rfl) (evl_cons (ev_str rfl) evl_nil rfl) rfl) rfl)) (evl_cons ev_bl evl_nil rfl) rfl) rfl) rfl)) (evl_cons (ev_tup (evl_cons (ev_str rfl) (evl_cons (ev_tup (evl_cons (ev_str rfl) (evl_cons (ev_pv rfl rfl rfl rfl) evl_nil rfl) rfl)) (evl_cons (ev_tup (evl_cons (ev_pv rfl rfl rfl rfl) (evl_cons (ev_str rfl) evl_nil rfl) rfl)) evl_nil rfl) rfl) rfl)) evl_nil rfl) rfl)) (evg_n (i := 13) sc__law_right.nd rfl rfl) rfl))
  (evssp_cons (psp_of (evs_if (evt_cmp (ops_ne rfl hr.room64) (ev_pv rfl rfl rfl rfl) (ev_tup (evl_cons (ev_str rfl) (evl_cons (ev_str rfl) (evl_cons (ev_tup (evl_cons (ev_str rfl) evl_nil rfl)) (evl_cons (ev_pv rfl rfl rfl rfl) (evl_cons ev_bl evl_nil rfl) rfl) rfl) rfl) rfl)) rfl) (evss_one (evs_ret ev_bl)) evss_nil))
  (evssp_cons (psp_of (evs_asg (ev_lst (evl_cons (ev_tup (evl_cons (ev_bin (ops_add rfl) (ev_pv rfl rfl rfl rfl) (ev_tup (evl_cons ev_int evl_nil rfl))) (evl_cons (ev_pv rfl rfl rfl rfl) (evl_cons (ev_pv rfl rfl rfl rfl) (evl_cons (ev_tup (evl_cons (ev_str rfl) (evl_cons (ev_pv rfl rfl rfl rfl) (evl_cons (ev_tup (evl_cons (ev_str rfl) (evl_cons (ev_pv rfl rfl rfl rfl) (evl_cons (ev_pv rfl rfl rfl rfl) evl_nil rfl) rfl) rfl)) (evl_cons ev_bl evl_nil rfl) rfl) rfl) rfl)) evl_nil rfl) rfl) rfl) rfl)) evl_nil rfl)) (evg_n (i := 14) sc__law_right.nd rfl rfl) rfl))
  (evssp_cons (psp_of (evs_expr (ev_append rfl (ev_pv rfl rfl rfl rfl) (ev_tup (evl_cons (ev_bin (ops_add rfl) (ev_pv rfl rfl rfl rfl) (ev_tup (evl_cons ev_int evl_nil rfl))) (evl_cons (ev_pv rfl rfl rfl rfl) (evl_cons (ev_pv rfl rfl rfl rfl) (evl_cons (ev_tup (evl_cons (ev_str rfl) (evl_cons (ev_tup (evl_cons (ev_str rfl) (evl_cons (ev_pv rfl rfl rfl rfl) evl_nil rfl) rfl)) (evl_cons (ev_tup (evl_cons (ev_pv rfl rfl rfl rfl) (evl_cons (ev_pv rfl rfl rfl rfl) evl_nil rfl) rfl)) evl_nil rfl) rfl) rfl)) evl_nil rfl) rfl) rfl) rfl)) rfl rfl rfl) rfl))
  (evssp_one (evsp_ret (evp_cmp2 (ops_eq rfl hr.room64) (evp_fun1 (fn_reprA rfl hr.quiet hr.room64) (fun _ _ => looks_b) (evp_user rfl c_expansion_5 hr rfl rfl (pap_of (evl_cons (ev_pv rfl rfl rfl rfl) (evl_cons (ev_tup (evl_cons (ev_pv rfl rfl rfl rfl) evl_nil rfl)) (evl_cons (ev_pv rfl rfl rfl rfl) (evl_cons (ev_pv rfl rfl rfl rfl) (evl_cons (ev_ix (ix_ok rfl) (ev_ix (ix_ok rfl) (ev_pv rfl rfl rfl rfl) ev_int fun _ _ => rfl) ev_int fun _ _ => rfl) evl_nil rfl) rfl) rfl) rfl) rfl)) rfl rfl) rfl T.z_repr bb_repr (by decide) rfl rfl) (pep_of (ev_B (fn_reprA rfl hr.quiet hr.room64) T.z_repr rfl bb_repr (evl_cons (ev_pv rfl rfl rfl rfl) evl_nil rfl) rfl rfl rfl)) rfl)))))))))))))))))
abbrev st_law : Stmt := top 26
theorem sc_law : FnScope ["_law_script", "_law_k"] ["_law_script"] (defScope st_law) := ⟨rfl, rfl, rfl, by decide +kernel, rfl, by decide +kernel, by decide +kernel⟩
def m_law : MS := (sRet (mfun false fAll (mcons (mcomp false [1] (irng irange1 (mcons (mfun false fMax (mcons (mc (.int 1)) (mcons (mfun false fMin (mcons (mfun false fLen (mcons (mvar 0) mnil)) (mcons (mc (.int 6)) mnil))) mnil))) mnil)) (gname 1) yes (mcall F__law_right 1 [] (mcons (mcall F__law_rng 2 [] (mcons (mvar 0) (mcons (mvar 1) mnil))) mnil))) mnil)))
def F_law : FunT := runL 2 m_law
theorem ok_law {f : Addr} {fd : FuncData} {dvs : List V} {kws : List (Str × V)} (T : TX C mg) (c__law_right_1 : CallLd C P w mg base 28 "_law_right" 1 F__law_right []) (c__law_rng_2 : CallOk C P w mg base CX0 1 "_law_rng" 2 F__law_rng []) (FD : FunD C.K "law" "law" (defArgs st_law) (defBody st_law) (defScope st_law) dvs kws f fd) : FnGP P w C.K mg base (28 + 1) f fd ["_law_script"] (spM C 1 F_law) :=
  fnp_ok (k := 28) (m := m_law) FD sc_law rfl rfl rfl fun cdv A outer s H hr =>
  (evssp_one (evsp_ret (evp_fun1 (fn_all rfl rfl) (fun _ _ => looks_b) (evp_comp (own := [("_law_k", 1)]) rfl sc_law.nd (by decide) (ev_rng1 T.z_range rfl (ev_B (fn_max rfl) T.z_max rfl bb_max (evl_cons ev_int (evl_cons (ev_B (fn_min rfl) T.z_min rfl bb_min (evl_cons (ev_B (fn_len rfl) T.z_len rfl bb_len (evl_cons (ev_pv rfl rfl rfl rfl) evl_nil rfl) rfl rfl rfl) (evl_cons ev_int evl_nil rfl) rfl) rfl rfl rfl) evl_nil rfl) rfl) rfl rfl rfl) rfl) (blkOk_by rfl) (fun s H Cc cl fp => (evg_n (i := 1) sc_law.nd rfl rfl)) (fun s H Cc cl fp => pts_nil) yes_t (fun s H Cc cl fp => (evp_user rfl c__law_right_1 hr rfl rfl (pap_of (evl_cons (ev_user rfl c__law_rng_2 hr rfl rfl (fun _ => passAt0) (evl_cons (ev_pv rfl rfl rfl rfl) (evl_cons (ev_pv rfl rfl rfl rfl) evl_nil rfl) rfl) rfl rfl) evl_nil rfl)) rfl rfl)) fun _ => rfl) rfl T.z_all bb_all (by decide) rfl rfl)))
end
end EV


/-! K24b: entries. -/
namespace EV
open PySem PySem.Spec PyProof.Rows L2 RP
theorem cut0 {x : D} {xs : List D} : cutD (x :: xs) none (some 1) = [x] := by simp [cutD, HT.sIx]
theorem cut1 {x : D} {xs : List D} : cutD (x :: xs) (some 1) none = xs := by simp [cutD, HT.sIx]
theorem at2 {α : Type} {x y z : α} {xs : List α} : atI (x :: y :: z :: xs) 2 = some z := by
  unfold atI ixN
  rw [if_pos (by decide), if_pos (by simp only [List.length_cons]; omega)]
  rfl
theorem at3 {α : Type} {x y z u : α} {xs : List α} : atI (x :: y :: z :: u :: xs) 3 = some u := by
  unfold atI ixN
  rw [if_pos (by decide), if_pos (by simp only [List.length_cons]; omega)]
  rfl
theorem at5 {α : Type} {x y z u v w : α} {xs : List α} : atI (x :: y :: z :: u :: v :: w :: xs) 5 = some w := by
  unfold atI ixN
  rw [if_pos (by decide), if_pos (by simp only [List.length_cons]; omega)]
  rfl
theorem at4 {α : Type} {x y z u v : α} {xs : List α} : atI (x :: y :: z :: u :: v :: xs) 4 = some v := by
  unfold atI ixN
  rw [if_pos (by decide), if_pos (by simp only [List.length_cons]; omega)]
  rfl
/-- the body of placed's loop -/
def placedS (G : GenT) : MGn := (gSeq (gQ (sAsg (mtup (mstar (mvar 1) (mcons (mvar 4) mnil))) (gname 6)))
  (gSeq (gYield (mtup (mcons (mvar 6) (mcons (mvar 2) (mcons (mvar 3) (mcons (mvar 5) mnil))))))
  (gIf (mbl (mop2 false oEq (mop2 false oIx (mvar 5) (mc (.int 0))) (mc (.str "mod")))) (gFrom G 4 (mcons (mop2 false oIx (mvar 5) (mc (.int 2))) (mcons (mvar 6) (mcons (mvar 6) (mcons (mvar 3) mnil))))) (gQ sPass))))
theorem placed_eq (G : GenT) : m_placed G = gFor (ienum (mvar 0)) (gtup [gname 4, gname 5]) (placedS G) := rfl
theorem kinds_mod : (("gap" : Str) == ("mod" : Str)) = false ∧ (("fn" : Str) == ("mod" : Str)) = false ∧ (("use" : Str) == ("mod" : Str)) = false ∧ (("glob" : Str) == ("mod" : Str)) = false ∧ (("call" : Str) == ("mod" : Str)) = false ∧ (("macro" : Str) == ("mod" : Str)) = false := by decide +kernel
/-- one turn -/
theorem placed_turn {G : GenT} {t : It} {i : Nat} {place : List D} {b mo th : D} {x y z : Option D} {h : Hd} {acc : List D} (hp : place.length + 1 ≤ sizeLine) (ha : acc.length < sizeLine) {rest : List D}
    (hg : ∀ w body b', t = .mod w body b' → G [bodyD body, .tup (place ++ [.int (i : Nat)]), .tup (place ++ [.int (i : Nat)]), th] h (acc ++ [entD (place ++ [.int (i : Nat)]) mo th t.d]) = some (acc ++ [entD (place ++ [.int (i : Nat)]) mo th t.d] ++ rest, h))
    (hr : It.ents (place ++ [.int (i : Nat)]) mo th t = entD (place ++ [.int (i : Nat)]) mo th t.d :: (match t with | .mod _ _ _ => rest | _ => [])) :
    ∃ e, placedS G [some b, some (.tup place), some mo, some th, some (.int (i : Nat)), some t.d, z] h acc = some (.nx, [some b, some (.tup place), some mo, some th, some (.int (i : Nat)), some t.d, e], h, acc ++ It.ents (place ++ [.int (i : Nat)]) mo th t) := by
  obtain ⟨q1, q2, q3, q4, q5, q6⟩ := kinds_mod
  have z4 : 4 ≤ sizeLine := len_le (by decide)
  refine ⟨some (.tup (place ++ [.int (i : Nat)])), ?_⟩
  rw [hr]
  cases t with
  | mod w body b' =>
    have hg' := hg w body b' rfl
    simp only [entD, bodyD, It.d, It.ds_map] at hg'
    simp only [placedS, mc_at, mvar_at, mnil_at, mcons_at, mop1_at, mop2_at, mtup_at, mlst_at, mfun_at, mand_at, mor_at, mnot_at, mandT_at, morT_at, mnotT_at, mtru_at, mbl_at, mite_at, mchain_at, mcall_at, mcallN_at, mmeth_at, msl_at, mpart0, mpart1, mdic0_at, iseq_at, irng_at, mcomp_at, fin_none, fin_v, fin_newF, fin_newT, resM_some, resM_none, isLst_ref, lstOf_ref, lstOf_lst, seqOf_tup, seqOf_lst, seqOf_ref, seqOf_scr, truth_bl, ofE_at, ofT_at, sPass_at, sExpr_at, sRet_at, sRetN_at, sAsg_at, sIf_at, sSeq_at, sFor_at, forLoop_nil, forLoop_cons, gname_at, gtup_at, gtup_lst, go_nil, go_cons, gstar_at, gsub_at, runB_at, startE_at, wipeE_nil, wipeE_cons, isi_at, len_at, all_lst, tuple_at, list_at, isN_eq, isN_ne, isN_in, isN_notIn, cmp_int, add_int, sub_int, mod_int, fdiv_int, mul_int, mul_lst, add_lst, add_refL, app_at, join_at, isStr_str, add_tup, add_str, int_bl, int_int, sl_tup, sl_lst, sl_str, pow_int, neg_int, ix_tup, ix_lst, ix_ref, ix_scr, gQ_at, gYield_at, gSeq_at, gIf_at, gLoop_nil, gFor_at, gFrom_at, runG_at, ienum_at, mlistG_at, runL_at, Res.bind_ok, Res.bind_bad, Res.bind_exc, List.getElem?_cons_zero, List.getElem?_cons_succ, List.getElem?_nil, List.map_cons, List.map_nil, List.cons_append, List.nil_append, List.append_nil, List.length_cons, List.length_nil, List.set_cons_zero, List.set_cons_succ, Option.map_some, Option.map_none, Option.isSome_some, List.replicate_succ, List.replicate_zero, if_true, if_false, reduceIte, Nat.reduceAdd, Nat.reduceSub, Nat.reduceLeDiff, Nat.reduceEqDiff, Nat.reduceLT, Bool.false_eq_true, and_self, and_true, true_and, List.drop_succ_cons, List.drop_zero, List.take_succ_cons, List.take_zero, Nat.zero_add, Nat.add_zero, Bool.not_true, Bool.not_false, Nat.sub_self, Nat.le_refl, Int.reduceLT, Int.reduceNeg, Nat.reducePow, Int.reducePow, Int.reduceToNat, Int.reduceAdd, Int.reduceSub, Int.reduceLE, Int.cast_ofNat_Int, Int.reduceBEq, List.flatten_cons, List.flatten_nil, Nat.reduceMul, Nat.one_mul, Nat.mul_one, Nat.mul_zero, Nat.zero_le, Int.reduceMul, mstar_at, entD, It.d, It.ds_map, at0, at2, eqv, beq_self_eq_true, ha, z4, List.length_append, hp, hg', List.append_assoc]
  | gap => simp only [placedS, mc_at, mvar_at, mnil_at, mcons_at, mop1_at, mop2_at, mtup_at, mlst_at, mfun_at, mand_at, mor_at, mnot_at, mandT_at, morT_at, mnotT_at, mtru_at, mbl_at, mite_at, mchain_at, mcall_at, mcallN_at, mmeth_at, msl_at, mpart0, mpart1, mdic0_at, iseq_at, irng_at, mcomp_at, fin_none, fin_v, fin_newF, fin_newT, resM_some, resM_none, isLst_ref, lstOf_ref, lstOf_lst, seqOf_tup, seqOf_lst, seqOf_ref, seqOf_scr, truth_bl, ofE_at, ofT_at, sPass_at, sExpr_at, sRet_at, sRetN_at, sAsg_at, sIf_at, sSeq_at, sFor_at, forLoop_nil, forLoop_cons, gname_at, gtup_at, gtup_lst, go_nil, go_cons, gstar_at, gsub_at, runB_at, startE_at, wipeE_nil, wipeE_cons, isi_at, len_at, all_lst, tuple_at, list_at, isN_eq, isN_ne, isN_in, isN_notIn, cmp_int, add_int, sub_int, mod_int, fdiv_int, mul_int, mul_lst, add_lst, add_refL, app_at, join_at, isStr_str, add_tup, add_str, int_bl, int_int, sl_tup, sl_lst, sl_str, pow_int, neg_int, ix_tup, ix_lst, ix_ref, ix_scr, gQ_at, gYield_at, gSeq_at, gIf_at, gLoop_nil, gFor_at, gFrom_at, runG_at, ienum_at, mlistG_at, runL_at, Res.bind_ok, Res.bind_bad, Res.bind_exc, List.getElem?_cons_zero, List.getElem?_cons_succ, List.getElem?_nil, List.map_cons, List.map_nil, List.cons_append, List.nil_append, List.append_nil, List.length_cons, List.length_nil, List.set_cons_zero, List.set_cons_succ, Option.map_some, Option.map_none, Option.isSome_some, List.replicate_succ, List.replicate_zero, if_true, if_false, reduceIte, Nat.reduceAdd, Nat.reduceSub, Nat.reduceLeDiff, Nat.reduceEqDiff, Nat.reduceLT, Bool.false_eq_true, and_self, and_true, true_and, List.drop_succ_cons, List.drop_zero, List.take_succ_cons, List.take_zero, Nat.zero_add, Nat.add_zero, Bool.not_true, Bool.not_false, Nat.sub_self, Nat.le_refl, Int.reduceLT, Int.reduceNeg, Nat.reducePow, Int.reducePow, Int.reduceToNat, Int.reduceAdd, Int.reduceSub, Int.reduceLE, Int.cast_ofNat_Int, Int.reduceBEq, List.flatten_cons, List.flatten_nil, Nat.reduceMul, Nat.one_mul, Nat.mul_one, Nat.mul_zero, Nat.zero_le, Int.reduceMul, mstar_at, entD, It.d, at0, eqv, q1, q2, q3, q4, q5, q6, ha, z4, List.length_append, hp]
  | fn _ _ _ => simp only [placedS, mc_at, mvar_at, mnil_at, mcons_at, mop1_at, mop2_at, mtup_at, mlst_at, mfun_at, mand_at, mor_at, mnot_at, mandT_at, morT_at, mnotT_at, mtru_at, mbl_at, mite_at, mchain_at, mcall_at, mcallN_at, mmeth_at, msl_at, mpart0, mpart1, mdic0_at, iseq_at, irng_at, mcomp_at, fin_none, fin_v, fin_newF, fin_newT, resM_some, resM_none, isLst_ref, lstOf_ref, lstOf_lst, seqOf_tup, seqOf_lst, seqOf_ref, seqOf_scr, truth_bl, ofE_at, ofT_at, sPass_at, sExpr_at, sRet_at, sRetN_at, sAsg_at, sIf_at, sSeq_at, sFor_at, forLoop_nil, forLoop_cons, gname_at, gtup_at, gtup_lst, go_nil, go_cons, gstar_at, gsub_at, runB_at, startE_at, wipeE_nil, wipeE_cons, isi_at, len_at, all_lst, tuple_at, list_at, isN_eq, isN_ne, isN_in, isN_notIn, cmp_int, add_int, sub_int, mod_int, fdiv_int, mul_int, mul_lst, add_lst, add_refL, app_at, join_at, isStr_str, add_tup, add_str, int_bl, int_int, sl_tup, sl_lst, sl_str, pow_int, neg_int, ix_tup, ix_lst, ix_ref, ix_scr, gQ_at, gYield_at, gSeq_at, gIf_at, gLoop_nil, gFor_at, gFrom_at, runG_at, ienum_at, mlistG_at, runL_at, Res.bind_ok, Res.bind_bad, Res.bind_exc, List.getElem?_cons_zero, List.getElem?_cons_succ, List.getElem?_nil, List.map_cons, List.map_nil, List.cons_append, List.nil_append, List.append_nil, List.length_cons, List.length_nil, List.set_cons_zero, List.set_cons_succ, Option.map_some, Option.map_none, Option.isSome_some, List.replicate_succ, List.replicate_zero, if_true, if_false, reduceIte, Nat.reduceAdd, Nat.reduceSub, Nat.reduceLeDiff, Nat.reduceEqDiff, Nat.reduceLT, Bool.false_eq_true, and_self, and_true, true_and, List.drop_succ_cons, List.drop_zero, List.take_succ_cons, List.take_zero, Nat.zero_add, Nat.add_zero, Bool.not_true, Bool.not_false, Nat.sub_self, Nat.le_refl, Int.reduceLT, Int.reduceNeg, Nat.reducePow, Int.reducePow, Int.reduceToNat, Int.reduceAdd, Int.reduceSub, Int.reduceLE, Int.cast_ofNat_Int, Int.reduceBEq, List.flatten_cons, List.flatten_nil, Nat.reduceMul, Nat.one_mul, Nat.mul_one, Nat.mul_zero, Nat.zero_le, Int.reduceMul, mstar_at, entD, It.d, at0, eqv, q1, q2, q3, q4, q5, q6, ha, z4, List.length_append, hp]
  | use _ _ _ _ => simp only [placedS, mc_at, mvar_at, mnil_at, mcons_at, mop1_at, mop2_at, mtup_at, mlst_at, mfun_at, mand_at, mor_at, mnot_at, mandT_at, morT_at, mnotT_at, mtru_at, mbl_at, mite_at, mchain_at, mcall_at, mcallN_at, mmeth_at, msl_at, mpart0, mpart1, mdic0_at, iseq_at, irng_at, mcomp_at, fin_none, fin_v, fin_newF, fin_newT, resM_some, resM_none, isLst_ref, lstOf_ref, lstOf_lst, seqOf_tup, seqOf_lst, seqOf_ref, seqOf_scr, truth_bl, ofE_at, ofT_at, sPass_at, sExpr_at, sRet_at, sRetN_at, sAsg_at, sIf_at, sSeq_at, sFor_at, forLoop_nil, forLoop_cons, gname_at, gtup_at, gtup_lst, go_nil, go_cons, gstar_at, gsub_at, runB_at, startE_at, wipeE_nil, wipeE_cons, isi_at, len_at, all_lst, tuple_at, list_at, isN_eq, isN_ne, isN_in, isN_notIn, cmp_int, add_int, sub_int, mod_int, fdiv_int, mul_int, mul_lst, add_lst, add_refL, app_at, join_at, isStr_str, add_tup, add_str, int_bl, int_int, sl_tup, sl_lst, sl_str, pow_int, neg_int, ix_tup, ix_lst, ix_ref, ix_scr, gQ_at, gYield_at, gSeq_at, gIf_at, gLoop_nil, gFor_at, gFrom_at, runG_at, ienum_at, mlistG_at, runL_at, Res.bind_ok, Res.bind_bad, Res.bind_exc, List.getElem?_cons_zero, List.getElem?_cons_succ, List.getElem?_nil, List.map_cons, List.map_nil, List.cons_append, List.nil_append, List.append_nil, List.length_cons, List.length_nil, List.set_cons_zero, List.set_cons_succ, Option.map_some, Option.map_none, Option.isSome_some, List.replicate_succ, List.replicate_zero, if_true, if_false, reduceIte, Nat.reduceAdd, Nat.reduceSub, Nat.reduceLeDiff, Nat.reduceEqDiff, Nat.reduceLT, Bool.false_eq_true, and_self, and_true, true_and, List.drop_succ_cons, List.drop_zero, List.take_succ_cons, List.take_zero, Nat.zero_add, Nat.add_zero, Bool.not_true, Bool.not_false, Nat.sub_self, Nat.le_refl, Int.reduceLT, Int.reduceNeg, Nat.reducePow, Int.reducePow, Int.reduceToNat, Int.reduceAdd, Int.reduceSub, Int.reduceLE, Int.cast_ofNat_Int, Int.reduceBEq, List.flatten_cons, List.flatten_nil, Nat.reduceMul, Nat.one_mul, Nat.mul_one, Nat.mul_zero, Nat.zero_le, Int.reduceMul, mstar_at, entD, It.d, at0, eqv, q1, q2, q3, q4, q5, q6, ha, z4, List.length_append, hp]
  | glob _ _ _ => simp only [placedS, mc_at, mvar_at, mnil_at, mcons_at, mop1_at, mop2_at, mtup_at, mlst_at, mfun_at, mand_at, mor_at, mnot_at, mandT_at, morT_at, mnotT_at, mtru_at, mbl_at, mite_at, mchain_at, mcall_at, mcallN_at, mmeth_at, msl_at, mpart0, mpart1, mdic0_at, iseq_at, irng_at, mcomp_at, fin_none, fin_v, fin_newF, fin_newT, resM_some, resM_none, isLst_ref, lstOf_ref, lstOf_lst, seqOf_tup, seqOf_lst, seqOf_ref, seqOf_scr, truth_bl, ofE_at, ofT_at, sPass_at, sExpr_at, sRet_at, sRetN_at, sAsg_at, sIf_at, sSeq_at, sFor_at, forLoop_nil, forLoop_cons, gname_at, gtup_at, gtup_lst, go_nil, go_cons, gstar_at, gsub_at, runB_at, startE_at, wipeE_nil, wipeE_cons, isi_at, len_at, all_lst, tuple_at, list_at, isN_eq, isN_ne, isN_in, isN_notIn, cmp_int, add_int, sub_int, mod_int, fdiv_int, mul_int, mul_lst, add_lst, add_refL, app_at, join_at, isStr_str, add_tup, add_str, int_bl, int_int, sl_tup, sl_lst, sl_str, pow_int, neg_int, ix_tup, ix_lst, ix_ref, ix_scr, gQ_at, gYield_at, gSeq_at, gIf_at, gLoop_nil, gFor_at, gFrom_at, runG_at, ienum_at, mlistG_at, runL_at, Res.bind_ok, Res.bind_bad, Res.bind_exc, List.getElem?_cons_zero, List.getElem?_cons_succ, List.getElem?_nil, List.map_cons, List.map_nil, List.cons_append, List.nil_append, List.append_nil, List.length_cons, List.length_nil, List.set_cons_zero, List.set_cons_succ, Option.map_some, Option.map_none, Option.isSome_some, List.replicate_succ, List.replicate_zero, if_true, if_false, reduceIte, Nat.reduceAdd, Nat.reduceSub, Nat.reduceLeDiff, Nat.reduceEqDiff, Nat.reduceLT, Bool.false_eq_true, and_self, and_true, true_and, List.drop_succ_cons, List.drop_zero, List.take_succ_cons, List.take_zero, Nat.zero_add, Nat.add_zero, Bool.not_true, Bool.not_false, Nat.sub_self, Nat.le_refl, Int.reduceLT, Int.reduceNeg, Nat.reducePow, Int.reducePow, Int.reduceToNat, Int.reduceAdd, Int.reduceSub, Int.reduceLE, Int.cast_ofNat_Int, Int.reduceBEq, List.flatten_cons, List.flatten_nil, Nat.reduceMul, Nat.one_mul, Nat.mul_one, Nat.mul_zero, Nat.zero_le, Int.reduceMul, mstar_at, entD, It.d, at0, eqv, q1, q2, q3, q4, q5, q6, ha, z4, List.length_append, hp]
  | call _ _ _ => simp only [placedS, mc_at, mvar_at, mnil_at, mcons_at, mop1_at, mop2_at, mtup_at, mlst_at, mfun_at, mand_at, mor_at, mnot_at, mandT_at, morT_at, mnotT_at, mtru_at, mbl_at, mite_at, mchain_at, mcall_at, mcallN_at, mmeth_at, msl_at, mpart0, mpart1, mdic0_at, iseq_at, irng_at, mcomp_at, fin_none, fin_v, fin_newF, fin_newT, resM_some, resM_none, isLst_ref, lstOf_ref, lstOf_lst, seqOf_tup, seqOf_lst, seqOf_ref, seqOf_scr, truth_bl, ofE_at, ofT_at, sPass_at, sExpr_at, sRet_at, sRetN_at, sAsg_at, sIf_at, sSeq_at, sFor_at, forLoop_nil, forLoop_cons, gname_at, gtup_at, gtup_lst, go_nil, go_cons, gstar_at, gsub_at, runB_at, startE_at, wipeE_nil, wipeE_cons, isi_at, len_at, all_lst, tuple_at, list_at, isN_eq, isN_ne, isN_in, isN_notIn, cmp_int, add_int, sub_int, mod_int, fdiv_int, mul_int, mul_lst, add_lst, add_refL, app_at, join_at, isStr_str, add_tup, add_str, int_bl, int_int, sl_tup, sl_lst, sl_str, pow_int, neg_int, ix_tup, ix_lst, ix_ref, ix_scr, gQ_at, gYield_at, gSeq_at, gIf_at, gLoop_nil, gFor_at, gFrom_at, runG_at, ienum_at, mlistG_at, runL_at, Res.bind_ok, Res.bind_bad, Res.bind_exc, List.getElem?_cons_zero, List.getElem?_cons_succ, List.getElem?_nil, List.map_cons, List.map_nil, List.cons_append, List.nil_append, List.append_nil, List.length_cons, List.length_nil, List.set_cons_zero, List.set_cons_succ, Option.map_some, Option.map_none, Option.isSome_some, List.replicate_succ, List.replicate_zero, if_true, if_false, reduceIte, Nat.reduceAdd, Nat.reduceSub, Nat.reduceLeDiff, Nat.reduceEqDiff, Nat.reduceLT, Bool.false_eq_true, and_self, and_true, true_and, List.drop_succ_cons, List.drop_zero, List.take_succ_cons, List.take_zero, Nat.zero_add, Nat.add_zero, Bool.not_true, Bool.not_false, Nat.sub_self, Nat.le_refl, Int.reduceLT, Int.reduceNeg, Nat.reducePow, Int.reducePow, Int.reduceToNat, Int.reduceAdd, Int.reduceSub, Int.reduceLE, Int.cast_ofNat_Int, Int.reduceBEq, List.flatten_cons, List.flatten_nil, Nat.reduceMul, Nat.one_mul, Nat.mul_one, Nat.mul_zero, Nat.zero_le, Int.reduceMul, mstar_at, entD, It.d, at0, eqv, q1, q2, q3, q4, q5, q6, ha, z4, List.length_append, hp]
  | mac _ _ _ _ => simp only [placedS, mc_at, mvar_at, mnil_at, mcons_at, mop1_at, mop2_at, mtup_at, mlst_at, mfun_at, mand_at, mor_at, mnot_at, mandT_at, morT_at, mnotT_at, mtru_at, mbl_at, mite_at, mchain_at, mcall_at, mcallN_at, mmeth_at, msl_at, mpart0, mpart1, mdic0_at, iseq_at, irng_at, mcomp_at, fin_none, fin_v, fin_newF, fin_newT, resM_some, resM_none, isLst_ref, lstOf_ref, lstOf_lst, seqOf_tup, seqOf_lst, seqOf_ref, seqOf_scr, truth_bl, ofE_at, ofT_at, sPass_at, sExpr_at, sRet_at, sRetN_at, sAsg_at, sIf_at, sSeq_at, sFor_at, forLoop_nil, forLoop_cons, gname_at, gtup_at, gtup_lst, go_nil, go_cons, gstar_at, gsub_at, runB_at, startE_at, wipeE_nil, wipeE_cons, isi_at, len_at, all_lst, tuple_at, list_at, isN_eq, isN_ne, isN_in, isN_notIn, cmp_int, add_int, sub_int, mod_int, fdiv_int, mul_int, mul_lst, add_lst, add_refL, app_at, join_at, isStr_str, add_tup, add_str, int_bl, int_int, sl_tup, sl_lst, sl_str, pow_int, neg_int, ix_tup, ix_lst, ix_ref, ix_scr, gQ_at, gYield_at, gSeq_at, gIf_at, gLoop_nil, gFor_at, gFrom_at, runG_at, ienum_at, mlistG_at, runL_at, Res.bind_ok, Res.bind_bad, Res.bind_exc, List.getElem?_cons_zero, List.getElem?_cons_succ, List.getElem?_nil, List.map_cons, List.map_nil, List.cons_append, List.nil_append, List.append_nil, List.length_cons, List.length_nil, List.set_cons_zero, List.set_cons_succ, Option.map_some, Option.map_none, Option.isSome_some, List.replicate_succ, List.replicate_zero, if_true, if_false, reduceIte, Nat.reduceAdd, Nat.reduceSub, Nat.reduceLeDiff, Nat.reduceEqDiff, Nat.reduceLT, Bool.false_eq_true, and_self, and_true, true_and, List.drop_succ_cons, List.drop_zero, List.take_succ_cons, List.take_zero, Nat.zero_add, Nat.add_zero, Bool.not_true, Bool.not_false, Nat.sub_self, Nat.le_refl, Int.reduceLT, Int.reduceNeg, Nat.reducePow, Int.reducePow, Int.reduceToNat, Int.reduceAdd, Int.reduceSub, Int.reduceLE, Int.cast_ofNat_Int, Int.reduceBEq, List.flatten_cons, List.flatten_nil, Nat.reduceMul, Nat.one_mul, Nat.mul_one, Nat.mul_zero, Nat.zero_le, Int.reduceMul, mstar_at, entD, It.d, at0, eqv, q1, q2, q3, q4, q5, q6, ha, z4, List.length_append, hp]
theorem placed_ok {m : Nat} : ∀ {n e : Nat} {its : List It} {place : List D} {mo th : D} {h : Hd} {acc : List D}, (∀ t ∈ its, t.Ok m e) → e + 1 ≤ n → its.length ≤ sizeLine → place.length + n ≤ sizeLine → acc.length + its.length * entN m e ≤ sizeLine →
    FF_placed n 0 [bodyD its, .tup place, mo, th] h acc = some (acc ++ It.entsL 0 place mo th its, h)
  | 0, _, _, _, _, _, _, _, _, l, _, _, _ => absurd l (by omega)
  | n + 1, e, its, place, mo, th, h, acc, ok, l, hz, hp, ha => by
    have loop : ∀ (ts : List It) (i : Nat) (acc : List D) (x y z : Option D), (∀ t ∈ ts, t.Ok m e) → acc.length + ts.length * entN m e ≤ sizeLine →
        ∃ x' y' z', gLoop (gtup [gname 4, gname 5]) (placedS (FF_placed n 0)) (((ts.map It.d).zipIdx i).map fun q => .tup [.int (q.2 : Nat), q.1]) [some (bodyD its), some (.tup place), some mo, some th, x, y, z] h acc =
          some (.nx, [some (bodyD its), some (.tup place), some mo, some th, x', y', z'], h, acc ++ It.entsL i place mo th ts) := by
      intro ts
      induction ts with
      | nil => intro i acc x y z _ _; exact ⟨x, y, z, by simp [It.entsL]⟩
      | cons t ts ih =>
        intro i acc x y z hok ha
        have hN := entN_pos m e
        have ht := hok t List.mem_cons_self
        have hl := ents_len ht (place ++ [.int (i : Nat)]) mo th
        rw [List.length_cons, Nat.succ_mul] at ha
        obtain ⟨e', hb⟩ := placed_turn (G := FF_placed n 0) (t := t) (i := i) (place := place) (b := bodyD its) (mo := mo) (th := th) (x := x) (y := y) (z := z) (h := h) (acc := acc) (by omega) (by omega)
          (rest := match t with | .mod w body b => It.entsL 0 (place ++ [.int (i : Nat)]) (.tup (place ++ [.int (i : Nat)])) th body | _ => [])
          (fun w body b' et => by
            subst et
            cases e with
            | zero => simp [It.Ok] at ht
            | succ e =>
              simp only [It.Ok] at ht
              have h5 := Nat.mul_le_mul_right (entN m e) ht.2.1
              have h6 : entN m (e + 1) = 1 + m * entN m e := rfl
              have hm' : body.length ≤ sizeLine := by
                have := Nat.mul_le_mul_left body.length (entN_pos m e)
                omega
              refine placed_ok (n := n) (e := e) ht.2.2 (by omega) hm' (by simp only [List.length_append, List.length_cons, List.length_nil]; omega) (by simp only [List.length_append, List.length_cons, List.length_nil]; omega))
          (by cases t <;> rfl)
        obtain ⟨x', y', z', hi⟩ := ih (i + 1) (acc ++ It.ents (place ++ [.int (i : Nat)]) mo th t) (some (.int (i : Nat))) (some t.d) e' (fun u hu => hok u (List.mem_cons_of_mem _ hu)) (by rw [List.length_append]; omega)
        refine ⟨x', y', z', ?_⟩
        rw [List.map_cons, List.zipIdx_cons, List.map_cons, gLoop_cons]
        simp only [gtup_at, go_cons, go_nil, gname_at, List.length_cons, List.length_nil, if_true, List.set_cons_succ, List.set_cons_zero, hb]
        rw [hi, It.entsL, List.append_assoc]
    obtain ⟨x', y', z', hl⟩ := loop its 0 acc none none none ok ha
    show runG 7 (m_placed (FF_placed n 0)) _ h acc = _
    rw [placed_eq]
    simp only [mc_at, mvar_at, mnil_at, mcons_at, mop1_at, mop2_at, mtup_at, mlst_at, mfun_at, mand_at, mor_at, mnot_at, mandT_at, morT_at, mnotT_at, mtru_at, mbl_at, mite_at, mchain_at, mcall_at, mcallN_at, mmeth_at, msl_at, mpart0, mpart1, mdic0_at, iseq_at, irng_at, mcomp_at, fin_none, fin_v, fin_newF, fin_newT, resM_some, resM_none, isLst_ref, lstOf_ref, lstOf_lst, seqOf_tup, seqOf_lst, seqOf_ref, seqOf_scr, truth_bl, ofE_at, ofT_at, sPass_at, sExpr_at, sRet_at, sRetN_at, sAsg_at, sIf_at, sSeq_at, sFor_at, forLoop_nil, forLoop_cons, gname_at, gtup_at, gtup_lst, go_nil, go_cons, gstar_at, gsub_at, runB_at, startE_at, wipeE_nil, wipeE_cons, isi_at, len_at, all_lst, tuple_at, list_at, isN_eq, isN_ne, isN_in, isN_notIn, cmp_int, add_int, sub_int, mod_int, fdiv_int, mul_int, mul_lst, add_lst, add_refL, app_at, join_at, isStr_str, add_tup, add_str, int_bl, int_int, sl_tup, sl_lst, sl_str, pow_int, neg_int, ix_tup, ix_lst, ix_ref, ix_scr, gQ_at, gYield_at, gSeq_at, gIf_at, gLoop_nil, gFor_at, gFrom_at, runG_at, ienum_at, mlistG_at, runL_at, Res.bind_ok, Res.bind_bad, Res.bind_exc, List.getElem?_cons_zero, List.getElem?_cons_succ, List.getElem?_nil, List.map_cons, List.map_nil, List.cons_append, List.nil_append, List.append_nil, List.length_cons, List.length_nil, List.set_cons_zero, List.set_cons_succ, Option.map_some, Option.map_none, Option.isSome_some, List.replicate_succ, List.replicate_zero, if_true, if_false, reduceIte, Nat.reduceAdd, Nat.reduceSub, Nat.reduceLeDiff, Nat.reduceEqDiff, Nat.reduceLT, Bool.false_eq_true, and_self, and_true, true_and, List.drop_succ_cons, List.drop_zero, List.take_succ_cons, List.take_zero, Nat.zero_add, Nat.add_zero, Bool.not_true, Bool.not_false, Nat.sub_self, Nat.le_refl, Int.reduceLT, Int.reduceNeg, Nat.reducePow, Int.reducePow, Int.reduceToNat, Int.reduceAdd, Int.reduceSub, Int.reduceLE, Int.cast_ofNat_Int, Int.reduceBEq, List.flatten_cons, List.flatten_nil, Nat.reduceMul, Nat.one_mul, Nat.mul_one, Nat.mul_zero, Nat.zero_le, Int.reduceMul, numbered, hl]
end EV


/-! K24c: draws. -/
namespace EV
open PySem PySem.Spec PyProof.Rows L2 RP
theorem draw (n : Nat) (h : Hd) (r : RngAt h n) (m : Int) (h0 : 0 < m) (h1 : m < 1073741824) : ∃ x h', F__law_draw [.ref n, .int m] h = .ok (.int x) h' ∧ Stp n h h' ∧ 0 ≤ x ∧ x < m := by
  have hn := r.lt
  obtain ⟨a, b, e, ha⟩ := r
  by_cases hp : 0 < a
  · refine ⟨a % m, h.set n (.lst [.int (a / m), .int b]), ?_, Stp.set hn (Int.ediv_nonneg ha (by omega)), Int.emod_nonneg _ (by omega), Int.emod_lt_of_pos _ h0⟩
    simp only [F__law_draw, m__law_draw, mc_at, mvar_at, mnil_at, mcons_at, mop1_at, mop2_at, mtup_at, mlst_at, mfun_at, mand_at, mor_at, mnot_at, mandT_at, morT_at, mnotT_at, mtru_at, mbl_at, mite_at, mchain_at, mcall_at, mcallN_at, mmeth_at, msl_at, mpart0, mpart1, mdic0_at, iseq_at, irng_at, mcomp_at, fin_none, fin_v, fin_newF, fin_newT, resM_some, resM_none, isLst_ref, lstOf_ref, lstOf_lst, seqOf_tup, seqOf_lst, seqOf_ref, seqOf_scr, truth_bl, ofE_at, ofT_at, sPass_at, sExpr_at, sRet_at, sRetN_at, sAsg_at, sIf_at, sSeq_at, sFor_at, forLoop_nil, forLoop_cons, gname_at, gtup_at, gtup_lst, go_nil, go_cons, gstar_at, gsub_at, runB_at, startE_at, wipeE_nil, wipeE_cons, isi_at, len_at, all_lst, tuple_at, list_at, isN_eq, isN_ne, isN_in, isN_notIn, cmp_int, add_int, sub_int, mod_int, fdiv_int, mul_int, mul_lst, add_lst, add_refL, app_at, join_at, isStr_str, add_tup, add_str, int_bl, int_int, sl_tup, sl_lst, sl_str, pow_int, neg_int, ix_tup, ix_lst, ix_ref, ix_scr, Res.bind_ok, Res.bind_bad, Res.bind_exc, List.getElem?_cons_zero, List.getElem?_cons_succ, List.getElem?_nil, List.map_cons, List.map_nil, List.cons_append, List.nil_append, List.append_nil, List.length_cons, List.length_nil, List.set_cons_zero, List.set_cons_succ, Option.map_some, Option.map_none, Option.isSome_some, List.replicate_succ, List.replicate_zero, if_true, if_false, reduceIte, Nat.reduceAdd, Nat.reduceSub, Nat.reduceLeDiff, Nat.reduceEqDiff, Nat.reduceLT, Bool.false_eq_true, and_self, and_true, true_and, List.drop_succ_cons, List.drop_zero, List.take_succ_cons, List.take_zero, Nat.zero_add, Nat.add_zero, Bool.not_true, Bool.not_false, Nat.sub_self, Nat.le_refl, Int.reduceLT, Int.reduceNeg, Nat.reducePow, Int.reducePow, Int.reduceToNat, Int.reduceAdd, Int.reduceSub, Int.reduceLE, Int.cast_ofNat_Int, Int.reduceBEq, List.flatten_cons, List.flatten_nil, Nat.reduceMul, Nat.one_mul, Nat.mul_one, Nat.mul_zero, Nat.zero_le, Int.reduceMul, e, at0, hp, decide_true, fDivmod, h0, h1, Nat.zero_lt_succ]
  · obtain rfl : a = 0 := by omega
    obtain ⟨c, hc⟩ : ∃ c, c = (b * 39373 + 9311) % 2147483629 := ⟨_, rfl⟩
    refine ⟨c * c % 2147483563 / 11 % m, h.set n (.lst [.int 0, .int c]), ?_, Stp.set hn (Int.le_refl _), Int.emod_nonneg _ (by omega), Int.emod_lt_of_pos _ h0⟩
    have hb : -18446744073709551616 < c ∧ c < 18446744073709551616 := by omega
    simp only [F__law_draw, m__law_draw, mc_at, mvar_at, mnil_at, mcons_at, mop1_at, mop2_at, mtup_at, mlst_at, mfun_at, mand_at, mor_at, mnot_at, mandT_at, morT_at, mnotT_at, mtru_at, mbl_at, mite_at, mchain_at, mcall_at, mcallN_at, mmeth_at, msl_at, mpart0, mpart1, mdic0_at, iseq_at, irng_at, mcomp_at, fin_none, fin_v, fin_newF, fin_newT, resM_some, resM_none, isLst_ref, lstOf_ref, lstOf_lst, seqOf_tup, seqOf_lst, seqOf_ref, seqOf_scr, truth_bl, ofE_at, ofT_at, sPass_at, sExpr_at, sRet_at, sRetN_at, sAsg_at, sIf_at, sSeq_at, sFor_at, forLoop_nil, forLoop_cons, gname_at, gtup_at, gtup_lst, go_nil, go_cons, gstar_at, gsub_at, runB_at, startE_at, wipeE_nil, wipeE_cons, isi_at, len_at, all_lst, tuple_at, list_at, isN_eq, isN_ne, isN_in, isN_notIn, cmp_int, add_int, sub_int, mod_int, fdiv_int, mul_int, mul_lst, add_lst, add_refL, app_at, join_at, isStr_str, add_tup, add_str, int_bl, int_int, sl_tup, sl_lst, sl_str, pow_int, neg_int, ix_tup, ix_lst, ix_ref, ix_scr, Res.bind_ok, Res.bind_bad, Res.bind_exc, List.getElem?_cons_zero, List.getElem?_cons_succ, List.getElem?_nil, List.map_cons, List.map_nil, List.cons_append, List.nil_append, List.append_nil, List.length_cons, List.length_nil, List.set_cons_zero, List.set_cons_succ, Option.map_some, Option.map_none, Option.isSome_some, List.replicate_succ, List.replicate_zero, if_true, if_false, reduceIte, Nat.reduceAdd, Nat.reduceSub, Nat.reduceLeDiff, Nat.reduceEqDiff, Nat.reduceLT, Bool.false_eq_true, and_self, and_true, true_and, List.drop_succ_cons, List.drop_zero, List.take_succ_cons, List.take_zero, Nat.zero_add, Nat.add_zero, Bool.not_true, Bool.not_false, Nat.sub_self, Nat.le_refl, Int.reduceLT, Int.reduceNeg, Nat.reducePow, Int.reducePow, Int.reduceToNat, Int.reduceAdd, Int.reduceSub, Int.reduceLE, Int.cast_ofNat_Int, Int.reduceBEq, List.flatten_cons, List.flatten_nil, Nat.reduceMul, Nat.one_mul, Nat.mul_one, Nat.mul_zero, Nat.zero_le, Int.reduceMul, e, at0, at1, hp, decide_false, h0, h1, hn, List.getElem?_set_self, List.set_set, List.length_set, or_true, true_or, ← hc, hb.1, hb.2]
theorem rng_new (ns : List Int) (k : Nat) (hk : k ≤ 1000) (h : Hd) : ∃ a b, F__law_rng [.scr ns, .int (k : Int)] h = .ok (.ref h.length) (h ++ [.lst [.int a, .int b]]) ∧ 0 ≤ a := by
  have h2 : (10 : Int).natAbs < 18446744073709551616 := by decide
  have h3 : (2 : Nat) ≤ sizeLine := len_le (by decide)
  by_cases hl : (k : Int) < ns.length
  · obtain ⟨y, e, hy⟩ := at_in (xs := ns.map D.int) (i := (k : Int)) (by omega) (by simpa using hl)
    obtain ⟨c, _, rfl⟩ := List.mem_map.mp hy
    obtain ⟨d, hd⟩ : ∃ d, d = (if c < 0 then -c else c) := ⟨_, rfl⟩
    have h1 : (d % 2147483563 + 4099 * (k : Int) + 17).natAbs < 18446744073709551616 := by omega
    refine ⟨if d - 1000000000000000000 > 0 then d - 1000000000000000000 else 0, (d % 2147483563 + 4099 * (k : Int) + 17) ^ 2 % 2147483549 + 1, ?_, by split <;> omega⟩
    simp only [F__law_rng, m__law_rng, mc_at, mvar_at, mnil_at, mcons_at, mop1_at, mop2_at, mtup_at, mlst_at, mfun_at, mand_at, mor_at, mnot_at, mandT_at, morT_at, mnotT_at, mtru_at, mbl_at, mite_at, mchain_at, mcall_at, mcallN_at, mmeth_at, msl_at, mpart0, mpart1, mdic0_at, iseq_at, irng_at, mcomp_at, fin_none, fin_v, fin_newF, fin_newT, resM_some, resM_none, isLst_ref, lstOf_ref, lstOf_lst, seqOf_tup, seqOf_lst, seqOf_ref, seqOf_scr, truth_bl, ofE_at, ofT_at, sPass_at, sExpr_at, sRet_at, sRetN_at, sAsg_at, sIf_at, sSeq_at, sFor_at, forLoop_nil, forLoop_cons, gname_at, gtup_at, gtup_lst, go_nil, go_cons, gstar_at, gsub_at, runB_at, startE_at, wipeE_nil, wipeE_cons, isi_at, len_at, all_lst, tuple_at, list_at, isN_eq, isN_ne, isN_in, isN_notIn, cmp_int, add_int, sub_int, mod_int, fdiv_int, mul_int, mul_lst, add_lst, add_refL, app_at, join_at, isStr_str, add_tup, add_str, int_bl, int_int, sl_tup, sl_lst, sl_str, pow_int, neg_int, ix_tup, ix_lst, ix_ref, ix_scr, Res.bind_ok, Res.bind_bad, Res.bind_exc, List.getElem?_cons_zero, List.getElem?_cons_succ, List.getElem?_nil, List.map_cons, List.map_nil, List.cons_append, List.nil_append, List.append_nil, List.length_cons, List.length_nil, List.set_cons_zero, List.set_cons_succ, Option.map_some, Option.map_none, Option.isSome_some, List.replicate_succ, List.replicate_zero, if_true, if_false, reduceIte, Nat.reduceAdd, Nat.reduceSub, Nat.reduceLeDiff, Nat.reduceEqDiff, Nat.reduceLT, Bool.false_eq_true, and_self, and_true, true_and, List.drop_succ_cons, List.drop_zero, List.take_succ_cons, List.take_zero, Nat.zero_add, Nat.add_zero, Bool.not_true, Bool.not_false, Nat.sub_self, Nat.le_refl, Int.reduceLT, Int.reduceNeg, Nat.reducePow, Int.reducePow, Int.reduceToNat, Int.reduceAdd, Int.reduceSub, Int.reduceLE, Int.cast_ofNat_Int, Int.reduceBEq, List.flatten_cons, List.flatten_nil, Nat.reduceMul, Nat.one_mul, Nat.mul_one, Nat.mul_zero, Nat.zero_le, Int.reduceMul, lenOf, List.length_map, hl, decide_true, e, fAbs, fMax, h1, h2, h3, true_or, ← hd]
  · have h1 : ((0 : Int) % 2147483563 + 4099 * (k : Int) + 17).natAbs < 18446744073709551616 := by omega
    refine ⟨0, ((0 : Int) % 2147483563 + 4099 * (k : Int) + 17) ^ 2 % 2147483549 + 1, ?_, Int.le_refl _⟩
    simp only [F__law_rng, m__law_rng, mc_at, mvar_at, mnil_at, mcons_at, mop1_at, mop2_at, mtup_at, mlst_at, mfun_at, mand_at, mor_at, mnot_at, mandT_at, morT_at, mnotT_at, mtru_at, mbl_at, mite_at, mchain_at, mcall_at, mcallN_at, mmeth_at, msl_at, mpart0, mpart1, mdic0_at, iseq_at, irng_at, mcomp_at, fin_none, fin_v, fin_newF, fin_newT, resM_some, resM_none, isLst_ref, lstOf_ref, lstOf_lst, seqOf_tup, seqOf_lst, seqOf_ref, seqOf_scr, truth_bl, ofE_at, ofT_at, sPass_at, sExpr_at, sRet_at, sRetN_at, sAsg_at, sIf_at, sSeq_at, sFor_at, forLoop_nil, forLoop_cons, gname_at, gtup_at, gtup_lst, go_nil, go_cons, gstar_at, gsub_at, runB_at, startE_at, wipeE_nil, wipeE_cons, isi_at, len_at, all_lst, tuple_at, list_at, isN_eq, isN_ne, isN_in, isN_notIn, cmp_int, add_int, sub_int, mod_int, fdiv_int, mul_int, mul_lst, add_lst, add_refL, app_at, join_at, isStr_str, add_tup, add_str, int_bl, int_int, sl_tup, sl_lst, sl_str, pow_int, neg_int, ix_tup, ix_lst, ix_ref, ix_scr, Res.bind_ok, Res.bind_bad, Res.bind_exc, List.getElem?_cons_zero, List.getElem?_cons_succ, List.getElem?_nil, List.map_cons, List.map_nil, List.cons_append, List.nil_append, List.append_nil, List.length_cons, List.length_nil, List.set_cons_zero, List.set_cons_succ, Option.map_some, Option.map_none, Option.isSome_some, List.replicate_succ, List.replicate_zero, if_true, if_false, reduceIte, Nat.reduceAdd, Nat.reduceSub, Nat.reduceLeDiff, Nat.reduceEqDiff, Nat.reduceLT, Bool.false_eq_true, and_self, and_true, true_and, List.drop_succ_cons, List.drop_zero, List.take_succ_cons, List.take_zero, Nat.zero_add, Nat.add_zero, Bool.not_true, Bool.not_false, Nat.sub_self, Nat.le_refl, Int.reduceLT, Int.reduceNeg, Nat.reducePow, Int.reducePow, Int.reduceToNat, Int.reduceAdd, Int.reduceSub, Int.reduceLE, Int.cast_ofNat_Int, Int.reduceBEq, List.flatten_cons, List.flatten_nil, Nat.reduceMul, Nat.one_mul, Nat.mul_one, Nat.mul_zero, Nat.zero_le, Int.reduceMul, lenOf, List.length_map, hl, decide_false, fMax, h1, h2, h3, true_or]
    rfl
section
variable {n : Nat} {h : Hd} {Q : D → Hd → Prop} {E : Exn → Hd → Prop} {env : Env}
theorem draw_sat (r : RngAt h n) {m : Int} (h0 : 0 < m) (h1 : m < 1073741824) (k : ∀ x h', Stp n h h' → 0 ≤ x → x < m → Q (.int x) h') : Sat (F__law_draw [.ref n, .int m] h) Q E := by
  obtain ⟨x, h', e, s, p, q⟩ := draw n h r m h0 h1
  rw [e]; exact k x h' s p q
theorem strsC_of {P : Nat → Prop} : ∀ {ys : List D}, (∀ y ∈ ys, ∃ c, y = .str ⟨#[c]⟩ ∧ P c) → ∃ cs : List Nat, strsOf ys = some (cs.map fun c => ⟨#[c]⟩) ∧ (∀ c ∈ cs, P c) ∧ cs.length = ys.length
  | [], _ => ⟨[], rfl, (fun _ z => nomatch z), rfl⟩
  | y :: ys, h => by
    obtain ⟨c, rfl, hc⟩ := h y List.mem_cons_self
    obtain ⟨cs, e, a, l⟩ := strsC_of fun y hy => h y (List.mem_cons_of_mem _ hy)
    refine ⟨c :: cs, by simp only [strsOf, e, Option.map_some]; rfl, fun x hx => ?_, by simp only [List.length_cons, l]⟩
    rcases List.mem_cons.mp hx with rfl | hx
    · exact hc
    · exact a x hx
theorem joinC : ∀ cs : List Nat, (Str.join "" (cs.map fun c => (⟨#[c]⟩ : Str))).cps.toList = cs
  | [] => rfl
  | [c] => rfl
  | c :: d :: r => by
    have e1 : ∀ a b : Str, (a ++ b).cps.toList = a.cps.toList ++ b.cps.toList := fun a b => Array.toList_append
    show ((((⟨#[c]⟩ : Str) ++ ("" : Str)) ++ Str.join "" ((d :: r).map fun c => (⟨#[c]⟩ : Str))).cps.toList) = _
    rw [e1, e1, joinC (d :: r)]
    rfl
theorem word_sat {i : Nat} {L : Str} {P : Nat → Prop} {k4 : Int} (r : RngAt h n) (e0 : env[0]? = some (some (.ref n))) (e2 : env[2]? = some (some (.str L))) (hi : 2 < i) (il : i < env.length) (hL : ∀ c ∈ L.cps.toList, P c) (l26 : L.length = 26) (h2 : 2 ≤ k4) (h8 : k4 ≤ 8)
    (k : ∀ z h', Stp n h h' → 1 ≤ z.length → (z.length : Int) ≤ k4 → (∀ c ∈ z.cps.toList, P c) → Q (.str z) h') :
    Sat (mmeth isStr fJoin (mc (.str "")) (mcons (mcomp false [i] (irng irange1 (mcons (mop2 false oIx (mlst false (mcons (mc (.int 1)) (mcons (mc (.int 1)) (mcons (mc (.int 2)) (mcons (mc (.int k4)) mnil))))) (mcall F__law_draw 2 [] (mcons (mvar 0) (mcons (mc (.int 4)) mnil)))) mnil)) (gname i) yes (mop2 false oIx (mvar 2) (mcall F__law_draw 2 [] (mcons (mvar 0) (mcons (mc (.int 26)) mnil))))) mnil) env h) Q E := by
  have z4 : 4 ≤ sizeLine := len_le (by decide)
  have lL : L.cps.toList.length = 26 := Array.length_toList.trans l26
  simp only [mc_at, mvar_at, mnil_at, mcons_at, mop1_at, mop2_at, mtup_at, mlst_at, mfun_at, mand_at, mor_at, mnot_at, mandT_at, morT_at, mnotT_at, mtru_at, mbl_at, mite_at, mchain_at, mcall_at, mcallN_at, mmeth_at, msl_at, mpart0, mpart1, mdic0_at, iseq_at, irng_at, fin_none, fin_v, fin_newF, fin_newT, resM_some, resM_none, isLst_ref, lstOf_ref, lstOf_lst, seqOf_tup, seqOf_lst, seqOf_ref, seqOf_scr, truth_bl, forLoop_nil, gname_at, gtup_at, gtup_lst, go_nil, go_cons, gstar_at, gsub_at, startE_at, wipeE_nil, wipeE_cons, isi_at, len_at, all_lst, tuple_at, list_at, isN_eq, isN_ne, isN_in, isN_notIn, cmp_int, add_int, sub_int, mod_int, fdiv_int, mul_int, mul_lst, add_lst, add_refL, app_at, join_at, isStr_str, add_tup, add_str, int_bl, int_int, sl_tup, sl_lst, sl_str, pow_int, neg_int, ix_tup, ix_lst, ix_ref, ix_scr, sat_ok, sat_exc, sat_bad, sat_bind, satS_some, satS_none, satO_some, satO_none, toRet_nx, toRet_ret, toRet_exc, sat_run, toSeq_nx, toSeq_ret, toSeq_exc, toSeq_bk, toSeq_ct, satS_seq, satS_pass, satS_brk, satS_cnt, satS_expr, satS_ret, satS_retN, satS_asg, satS_if, satS_for, sat_comp, satS_par2, satS_par3, sat_ite, fin_ite, mdisp_at, mpairs_nil, mpairs_cons, mixd_at, mget2_at, mdict_at, mfz_at, mstar_at, mdzip_at, Res.bind_ok, Res.bind_bad, Res.bind_exc, List.getElem?_cons_zero, List.getElem?_cons_succ, List.getElem?_nil, List.map_cons, List.map_nil, List.cons_append, List.nil_append, List.append_nil, List.length_cons, List.length_nil, List.set_cons_zero, List.set_cons_succ, Option.map_some, Option.map_none, Option.isSome_some, List.replicate_succ, List.replicate_zero, if_true, if_false, reduceIte, Nat.reduceAdd, Nat.reduceSub, Nat.reduceLeDiff, Nat.reduceEqDiff, Nat.reduceLT, Bool.false_eq_true, and_self, and_true, true_and, List.drop_succ_cons, List.drop_zero, List.take_succ_cons, List.take_zero, Nat.zero_add, Nat.add_zero, Bool.not_true, Bool.not_false, Nat.sub_self, Nat.le_refl, Int.reduceLT, Int.reduceNeg, Nat.reducePow, Int.reducePow, Int.reduceToNat, Int.reduceAdd, Int.reduceSub, Int.reduceLE, Int.cast_ofNat_Int, Int.reduceBEq, List.flatten_cons, List.flatten_nil, Nat.reduceMul, Nat.one_mul, Nat.mul_one, Nat.mul_zero, Nat.zero_le, Int.reduceMul, e0, z4]
  refine draw_sat r (by decide) (by decide) fun x h1 s1 p1 q1 => ?_
  obtain ⟨y, ey, my⟩ := at_in (xs := [D.int 1, .int 1, .int 2, .int k4]) p1 q1
  obtain ⟨c, rfl, c1, c8⟩ : ∃ c : Nat, y = .int (c : Int) ∧ 1 ≤ c ∧ (c : Int) ≤ k4 := by
    simp only [List.mem_cons, List.not_mem_nil, or_false] at my
    rcases my with rfl | rfl | rfl | rfl
    · exact ⟨1, rfl, by decide, by omega⟩
    · exact ⟨1, rfl, by decide, by omega⟩
    · exact ⟨2, rfl, by decide, by omega⟩
    · exact ⟨k4.toNat, by rw [Int.toNat_of_nonneg (by omega)], by omega, by omega⟩
  simp only [mc_at, mvar_at, mnil_at, mcons_at, mop1_at, mop2_at, mtup_at, mlst_at, mfun_at, mand_at, mor_at, mnot_at, mandT_at, morT_at, mnotT_at, mtru_at, mbl_at, mite_at, mchain_at, mcall_at, mcallN_at, mmeth_at, msl_at, mpart0, mpart1, mdic0_at, iseq_at, irng_at, fin_none, fin_v, fin_newF, fin_newT, resM_some, resM_none, isLst_ref, lstOf_ref, lstOf_lst, seqOf_tup, seqOf_lst, seqOf_ref, seqOf_scr, truth_bl, forLoop_nil, gname_at, gtup_at, gtup_lst, go_nil, go_cons, gstar_at, gsub_at, startE_at, wipeE_nil, wipeE_cons, isi_at, len_at, all_lst, tuple_at, list_at, isN_eq, isN_ne, isN_in, isN_notIn, cmp_int, add_int, sub_int, mod_int, fdiv_int, mul_int, mul_lst, add_lst, add_refL, app_at, join_at, isStr_str, add_tup, add_str, int_bl, int_int, sl_tup, sl_lst, sl_str, pow_int, neg_int, ix_tup, ix_lst, ix_ref, ix_scr, sat_ok, sat_exc, sat_bad, sat_bind, satS_some, satS_none, satO_some, satO_none, toRet_nx, toRet_ret, toRet_exc, sat_run, toSeq_nx, toSeq_ret, toSeq_exc, toSeq_bk, toSeq_ct, satS_seq, satS_pass, satS_brk, satS_cnt, satS_expr, satS_ret, satS_retN, satS_asg, satS_if, satS_for, sat_comp, satS_par2, satS_par3, sat_ite, fin_ite, mdisp_at, mpairs_nil, mpairs_cons, mixd_at, mget2_at, mdict_at, mfz_at, mstar_at, mdzip_at, Res.bind_ok, Res.bind_bad, Res.bind_exc, List.getElem?_cons_zero, List.getElem?_cons_succ, List.getElem?_nil, List.map_cons, List.map_nil, List.cons_append, List.nil_append, List.append_nil, List.length_cons, List.length_nil, List.set_cons_zero, List.set_cons_succ, Option.map_some, Option.map_none, Option.isSome_some, List.replicate_succ, List.replicate_zero, if_true, if_false, reduceIte, Nat.reduceAdd, Nat.reduceSub, Nat.reduceLeDiff, Nat.reduceEqDiff, Nat.reduceLT, Bool.false_eq_true, and_self, and_true, true_and, List.drop_succ_cons, List.drop_zero, List.take_succ_cons, List.take_zero, Nat.zero_add, Nat.add_zero, Bool.not_true, Bool.not_false, Nat.sub_self, Nat.le_refl, Int.reduceLT, Int.reduceNeg, Nat.reducePow, Int.reducePow, Int.reduceToNat, Int.reduceAdd, Int.reduceSub, Int.reduceLE, Int.cast_ofNat_Int, Int.reduceBEq, List.flatten_cons, List.flatten_nil, Nat.reduceMul, Nat.one_mul, Nat.mul_one, Nat.mul_zero, Nat.zero_le, Int.reduceMul, ey, range_ok (n := c) (by omega)]
  refine comp_sat (J := fun _ h' => Stp n h1 h') (P := fun _ y => ∃ c, y = .str ⟨#[c]⟩ ∧ P c) (Stp.refl s1.rng) (fun j x h2 hx s2 => ?_) fun ys h2 hl hp s2 => ?_
  · have f0 : ((env.set i none).set i (some x))[0]? = some (some (.ref n)) := by rw [List.getElem?_set_ne (by omega), List.getElem?_set_ne (by omega)]; exact e0
    have f2 : ((env.set i none).set i (some x))[2]? = some (some (.str L)) := by rw [List.getElem?_set_ne (by omega), List.getElem?_set_ne (by omega)]; exact e2
    simp only [mc_at, mvar_at, mnil_at, mcons_at, mop1_at, mop2_at, mtup_at, mlst_at, mfun_at, mand_at, mor_at, mnot_at, mandT_at, morT_at, mnotT_at, mtru_at, mbl_at, mite_at, mchain_at, mcall_at, mcallN_at, mmeth_at, msl_at, mpart0, mpart1, mdic0_at, iseq_at, irng_at, fin_none, fin_v, fin_newF, fin_newT, resM_some, resM_none, isLst_ref, lstOf_ref, lstOf_lst, seqOf_tup, seqOf_lst, seqOf_ref, seqOf_scr, truth_bl, forLoop_nil, gname_at, gtup_at, gtup_lst, go_nil, go_cons, gstar_at, gsub_at, startE_at, wipeE_nil, wipeE_cons, isi_at, len_at, all_lst, tuple_at, list_at, isN_eq, isN_ne, isN_in, isN_notIn, cmp_int, add_int, sub_int, mod_int, fdiv_int, mul_int, mul_lst, add_lst, add_refL, app_at, join_at, isStr_str, add_tup, add_str, int_bl, int_int, sl_tup, sl_lst, sl_str, pow_int, neg_int, ix_tup, ix_lst, ix_ref, ix_scr, sat_ok, sat_exc, sat_bad, sat_bind, satS_some, satS_none, satO_some, satO_none, toRet_nx, toRet_ret, toRet_exc, sat_run, toSeq_nx, toSeq_ret, toSeq_exc, toSeq_bk, toSeq_ct, satS_seq, satS_pass, satS_brk, satS_cnt, satS_expr, satS_ret, satS_retN, satS_asg, satS_if, satS_for, sat_comp, satS_par2, satS_par3, sat_ite, fin_ite, mdisp_at, mpairs_nil, mpairs_cons, mixd_at, mget2_at, mdict_at, mfz_at, mstar_at, mdzip_at, Res.bind_ok, Res.bind_bad, Res.bind_exc, List.getElem?_cons_zero, List.getElem?_cons_succ, List.getElem?_nil, List.map_cons, List.map_nil, List.cons_append, List.nil_append, List.append_nil, List.length_cons, List.length_nil, List.set_cons_zero, List.set_cons_succ, Option.map_some, Option.map_none, Option.isSome_some, List.replicate_succ, List.replicate_zero, if_true, if_false, reduceIte, Nat.reduceAdd, Nat.reduceSub, Nat.reduceLeDiff, Nat.reduceEqDiff, Nat.reduceLT, Bool.false_eq_true, and_self, and_true, true_and, List.drop_succ_cons, List.drop_zero, List.take_succ_cons, List.take_zero, Nat.zero_add, Nat.add_zero, Bool.not_true, Bool.not_false, Nat.sub_self, Nat.le_refl, Int.reduceLT, Int.reduceNeg, Nat.reducePow, Int.reducePow, Int.reduceToNat, Int.reduceAdd, Int.reduceSub, Int.reduceLE, Int.cast_ofNat_Int, Int.reduceBEq, List.flatten_cons, List.flatten_nil, Nat.reduceMul, Nat.one_mul, Nat.mul_one, Nat.mul_zero, Nat.zero_le, Int.reduceMul, f0, f2]
    refine draw_sat s2.rng (by decide) (by decide) fun x h3 s3 p3 q3 => ?_
    obtain ⟨d, ed, md⟩ := at_in (xs := L.cps.toList) p3 (by rw [lL]; exact q3)
    simp only [mc_at, mvar_at, mnil_at, mcons_at, mop1_at, mop2_at, mtup_at, mlst_at, mfun_at, mand_at, mor_at, mnot_at, mandT_at, morT_at, mnotT_at, mtru_at, mbl_at, mite_at, mchain_at, mcall_at, mcallN_at, mmeth_at, msl_at, mpart0, mpart1, mdic0_at, iseq_at, irng_at, fin_none, fin_v, fin_newF, fin_newT, resM_some, resM_none, isLst_ref, lstOf_ref, lstOf_lst, seqOf_tup, seqOf_lst, seqOf_ref, seqOf_scr, truth_bl, forLoop_nil, gname_at, gtup_at, gtup_lst, go_nil, go_cons, gstar_at, gsub_at, startE_at, wipeE_nil, wipeE_cons, isi_at, len_at, all_lst, tuple_at, list_at, isN_eq, isN_ne, isN_in, isN_notIn, cmp_int, add_int, sub_int, mod_int, fdiv_int, mul_int, mul_lst, add_lst, add_refL, app_at, join_at, isStr_str, add_tup, add_str, int_bl, int_int, sl_tup, sl_lst, sl_str, pow_int, neg_int, ix_tup, ix_lst, ix_ref, ix_scr, sat_ok, sat_exc, sat_bad, sat_bind, satS_some, satS_none, satO_some, satO_none, toRet_nx, toRet_ret, toRet_exc, sat_run, toSeq_nx, toSeq_ret, toSeq_exc, toSeq_bk, toSeq_ct, satS_seq, satS_pass, satS_brk, satS_cnt, satS_expr, satS_ret, satS_retN, satS_asg, satS_if, satS_for, sat_comp, satS_par2, satS_par3, sat_ite, fin_ite, mdisp_at, mpairs_nil, mpairs_cons, mixd_at, mget2_at, mdict_at, mfz_at, mstar_at, mdzip_at, Res.bind_ok, Res.bind_bad, Res.bind_exc, List.getElem?_cons_zero, List.getElem?_cons_succ, List.getElem?_nil, List.map_cons, List.map_nil, List.cons_append, List.nil_append, List.append_nil, List.length_cons, List.length_nil, List.set_cons_zero, List.set_cons_succ, Option.map_some, Option.map_none, Option.isSome_some, List.replicate_succ, List.replicate_zero, if_true, if_false, reduceIte, Nat.reduceAdd, Nat.reduceSub, Nat.reduceLeDiff, Nat.reduceEqDiff, Nat.reduceLT, Bool.false_eq_true, and_self, and_true, true_and, List.drop_succ_cons, List.drop_zero, List.take_succ_cons, List.take_zero, Nat.zero_add, Nat.add_zero, Bool.not_true, Bool.not_false, Nat.sub_self, Nat.le_refl, Int.reduceLT, Int.reduceNeg, Nat.reducePow, Int.reducePow, Int.reduceToNat, Int.reduceAdd, Int.reduceSub, Int.reduceLE, Int.cast_ofNat_Int, Int.reduceBEq, List.flatten_cons, List.flatten_nil, Nat.reduceMul, Nat.one_mul, Nat.mul_one, Nat.mul_zero, Nat.zero_le, Int.reduceMul, oIx, ed]
    exact ⟨s2.trans s3, d, rfl, hL d md⟩
  · obtain ⟨cs, ec, pc, lc⟩ := strsC_of (P := P) (ys := ys) fun y hy => by
      obtain ⟨j, hj⟩ := List.getElem?_of_mem hy
      exact hp j y hj
    rw [List.length_map, List.length_range] at hl
    have ej := joinC cs
    have lj : (Str.join "" (cs.map fun c => (⟨#[c]⟩ : Str))).length = cs.length := (Array.length_toList.symm).trans (congrArg List.length ej)
    have hs : ((cs.map fun c => (⟨#[c]⟩ : Str)).map (·.length)).sum + (cs.map fun c => (⟨#[c]⟩ : Str)).length * (("" : Str).length) ≤ 16777216 := by
      have e1 : ((cs.map fun c => (⟨#[c]⟩ : Str)).map (·.length)).sum ≤ cs.length := by
        clear ec pc lc ej lj
        induction cs with
        | nil => simp
        | cons c cs ih =>
          simp only [List.map_cons, List.sum_cons, List.length_cons]
          have : (⟨#[c]⟩ : Str).length = 1 := rfl
          omega
      rw [show ("" : Str).length = 0 from rfl]; omega
    simp only [mc_at, mvar_at, mnil_at, mcons_at, mop1_at, mop2_at, mtup_at, mlst_at, mfun_at, mand_at, mor_at, mnot_at, mandT_at, morT_at, mnotT_at, mtru_at, mbl_at, mite_at, mchain_at, mcall_at, mcallN_at, mmeth_at, msl_at, mpart0, mpart1, mdic0_at, iseq_at, irng_at, fin_none, fin_v, fin_newF, fin_newT, resM_some, resM_none, isLst_ref, lstOf_ref, lstOf_lst, seqOf_tup, seqOf_lst, seqOf_ref, seqOf_scr, truth_bl, forLoop_nil, gname_at, gtup_at, gtup_lst, go_nil, go_cons, gstar_at, gsub_at, startE_at, wipeE_nil, wipeE_cons, isi_at, len_at, all_lst, tuple_at, list_at, isN_eq, isN_ne, isN_in, isN_notIn, cmp_int, add_int, sub_int, mod_int, fdiv_int, mul_int, mul_lst, add_lst, add_refL, app_at, join_at, isStr_str, add_tup, add_str, int_bl, int_int, sl_tup, sl_lst, sl_str, pow_int, neg_int, ix_tup, ix_lst, ix_ref, ix_scr, sat_ok, sat_exc, sat_bad, sat_bind, satS_some, satS_none, satO_some, satO_none, toRet_nx, toRet_ret, toRet_exc, sat_run, toSeq_nx, toSeq_ret, toSeq_exc, toSeq_bk, toSeq_ct, satS_seq, satS_pass, satS_brk, satS_cnt, satS_expr, satS_ret, satS_retN, satS_asg, satS_if, satS_for, sat_comp, satS_par2, satS_par3, sat_ite, fin_ite, mdisp_at, mpairs_nil, mpairs_cons, mixd_at, mget2_at, mdict_at, mfz_at, mstar_at, mdzip_at, Res.bind_ok, Res.bind_bad, Res.bind_exc, List.getElem?_cons_zero, List.getElem?_cons_succ, List.getElem?_nil, List.map_cons, List.map_nil, List.cons_append, List.nil_append, List.append_nil, List.length_cons, List.length_nil, List.set_cons_zero, List.set_cons_succ, Option.map_some, Option.map_none, Option.isSome_some, List.replicate_succ, List.replicate_zero, if_true, if_false, reduceIte, Nat.reduceAdd, Nat.reduceSub, Nat.reduceLeDiff, Nat.reduceEqDiff, Nat.reduceLT, Bool.false_eq_true, and_self, and_true, true_and, List.drop_succ_cons, List.drop_zero, List.take_succ_cons, List.take_zero, Nat.zero_add, Nat.add_zero, Bool.not_true, Bool.not_false, Nat.sub_self, Nat.le_refl, Int.reduceLT, Int.reduceNeg, Nat.reducePow, Int.reducePow, Int.reduceToNat, Int.reduceAdd, Int.reduceSub, Int.reduceLE, Int.cast_ofNat_Int, Int.reduceBEq, List.flatten_cons, List.flatten_nil, Nat.reduceMul, Nat.one_mul, Nat.mul_one, Nat.mul_zero, Nat.zero_le, Int.reduceMul, ec, hs]
    exact k _ _ (s1.trans s2) (by omega) (by omega) (by rw [ej]; exact pc)
theorem Stp.put {n m : Nat} {h h' : Hd} {o : MO} (s : Stp n h h') (hm : h.length ≤ m) (hn : n < h.length) : Stp n h (h'.set m o) := by
  obtain ⟨a, b, e, ha⟩ := s.rng
  exact ⟨⟨a, b, by rw [List.getElem?_set_ne (by omega)]; exact e, ha⟩, by rw [List.length_set]; exact s.len, fun j hj hne => by rw [List.getElem?_set_ne (by omega)]; exact s.same j hj hne⟩
theorem comp_filtm {α : Type} {i : Nat} {cond : M Bool} {elt : M D} {env : Env} {h : Hd} {g f : α → D} {p : α → Bool} : ∀ {l : List α} {acc : List D}, (∀ x ∈ l, cond (env.set i (some (g x))) h = .ok (p x) h ∧ elt (env.set i (some (g x))) h = .ok (f x) h) → compLoop (gname i) cond elt env (l.map g) acc h = some (acc ++ (l.filter p).map f, h)
  | [], acc, _ => by simp [compLoop]
  | x :: xs, acc, hx => by
    have h1 := hx x List.mem_cons_self
    rw [List.map_cons]
    unfold compLoop
    simp only [gname_at, h1.1, h1.2]
    cases hp : p x with
    | true =>
      simp only [h1.2]
      rw [comp_filtm fun y hy => hx y (List.mem_cons_of_mem _ hy)]
      simp [hp]
    | false =>
      simp only
      rw [comp_filtm fun y hy => hx y (List.mem_cons_of_mem _ hy)]
      simp [hp]
def memS (qs : List Str) (z : Str) : Bool := (qs.map D.str).any fun y => eqF y (.str z)
theorem memS_iff {qs : List Str} {z : Str} : memS qs z = true ↔ z ∈ qs := by
  unfold memS
  rw [List.any_eq_true]
  constructor
  · rintro ⟨y, hy, e⟩
    obtain ⟨q, hq, rfl⟩ := List.mem_map.mp hy
    have : q = z := by simpa [eqF] using e
    exact this ▸ hq
  · intro hm
    exact ⟨.str z, List.mem_map.mpr ⟨z, hm, rfl⟩, by simp [eqF]⟩
theorem flat_strs : ∀ qs : List Str, (qs.map D.str).all flatD = true
  | [] => rfl
  | q :: qs => flat_strs qs
theorem in_seq {d : D} {qs : List Str} (z : Str) (hd : seqOf d h = some (qs.map .str)) (hs : ∀ b, d ≠ .str b) : isIn (.str z) d h = some (memS qs z) := by
  have : isIn (.str z) d h = (match seqOf d h with
    | some ys => if flatD (.str z) = true ∧ ys.all flatD = true then some (ys.any fun y => eqF y (.str z)) else none
    | none => none) := by
    cases d <;> first | rfl | exact absurd rfl (hs _)
  rw [this, hd]
  simp only
  rw [if_pos ⟨rfl, flat_strs qs⟩]
  rfl
theorem in_lst (z : Str) (qs : List Str) : isIn (.str z) (.lst (qs.map D.str)) h = some (memS qs z) := in_seq z rfl fun _ e => nomatch e
/-- of more words than are taken one is free -/
theorem free_of {l qs : List Str} (hn : l.Nodup) (hl : qs.length < l.length) : ∃ z r, l.filter (fun z => !memS qs z) = z :: r := by
  cases e : l.filter (fun z => !memS qs z) with
  | cons z r => exact ⟨z, r, rfl⟩
  | nil =>
    exfalso
    have := hn.length_le_of_subset (l₂ := qs) fun z hz => by
      rcases hm : memS qs z with _ | _
      · have : z ∈ l.filter (fun z => !memS qs z) := List.mem_filter.mpr ⟨hz, by simp [hm]⟩
        rw [e] at this; cases this
      · exact memS_iff.mp hm
    omega
abbrev LET : Str := "abcdefghijklmnopqrstuvwxyz"
abbrev CAP : Str := "ABCDEFGHIJKLMNOPQRSTUVWXYZ"
theorem let_c26 : ∀ c ∈ LET.cps.toList, 97 ≤ c ∧ c ≤ 122 := by decide +kernel
theorem cap_c26 : ∀ c ∈ CAP.cps.toList, 65 ≤ c ∧ c ≤ 90 := by decide +kernel
def two (j : Nat) : Str := ⟨#[97 + j / 26, 97 + j % 26, 120]⟩
theorem two_nd : ((List.range 676).map two).Nodup := by
  refine List.pairwise_map.mpr (List.Pairwise.imp (fun {a b} hab e => hab ?_) List.nodup_range)
  have e' : [97 + a / 26, 97 + a % 26, 120] = [97 + b / 26, 97 + b % 26, 120] := congrArg (·.cps.toList) e
  simp only [List.cons.injEq] at e'
  omega
theorem let_at (i : Nat) (hi : i < 26) : atI LET.cps.toList (i : Int) = some (97 + i) := by
  have : ∀ i : Fin 26, atI LET.cps.toList ((i.val : Nat) : Int) = some (97 + i.val) := by decide +kernel
  exact this ⟨i, hi⟩
theorem two_low {j : Nat} (hj : j < 676) : Low (two j) := by
  refine ⟨⟨by show 1 ≤ 3; decide, by show 3 ≤ 8; decide⟩, fun c hc => ?_⟩
  have hc' : c ∈ [97 + j / 26, 97 + j % 26, 120] := hc
  simp only [List.mem_cons, List.not_mem_nil, or_false] at hc'
  omega
theorem name_sat (r : RngAt h n) {qs : List Str} (hq : qs.length ≤ 100) (k : ∀ z h', Stp n h h' → Low z → z ∉ qs → Q (.str z) h') : Sat (F__law_name [.ref n, .lst (qs.map .str)] h) Q E := by
  have z2 : 2 ≤ sizeLine := len_le (by decide)
  have z3 : 3 ≤ sizeLine := len_le (by decide)
  have r3 : irange1 [.int 3] = some ((List.range 3).map fun k : Nat => D.int (k : Int)) := range_ok (n := 3) (by decide)
  have r676 : irange1 [.int 676] = some ((List.range 676).map fun k : Nat => D.int (k : Int)) := range_ok (n := 676) (by decide)
  simp only [F__law_name, m__law_name, mc_at, mvar_at, mnil_at, mcons_at, mop1_at, mop2_at, mtup_at, mlst_at, mfun_at, mand_at, mor_at, mnot_at, mandT_at, morT_at, mnotT_at, mtru_at, mbl_at, mite_at, mchain_at, mcall_at, mcallN_at, mmeth_at, msl_at, mpart0, mpart1, mdic0_at, iseq_at, irng_at, fin_none, fin_v, fin_newF, fin_newT, resM_some, resM_none, isLst_ref, lstOf_ref, lstOf_lst, seqOf_tup, seqOf_lst, seqOf_ref, seqOf_scr, truth_bl, forLoop_nil, gname_at, gtup_at, gtup_lst, go_nil, go_cons, gstar_at, gsub_at, startE_at, wipeE_nil, wipeE_cons, isi_at, len_at, all_lst, tuple_at, list_at, isN_eq, isN_ne, isN_in, isN_notIn, cmp_int, add_int, sub_int, mod_int, fdiv_int, mul_int, mul_lst, add_lst, add_refL, app_at, join_at, isStr_str, add_tup, add_str, int_bl, int_int, sl_tup, sl_lst, sl_str, pow_int, neg_int, ix_tup, ix_lst, ix_ref, ix_scr, sat_ok, sat_exc, sat_bad, sat_bind, satS_some, satS_none, satO_some, satO_none, toRet_nx, toRet_ret, toRet_exc, sat_run, toSeq_nx, toSeq_ret, toSeq_exc, toSeq_bk, toSeq_ct, satS_seq, satS_pass, satS_brk, satS_cnt, satS_expr, satS_ret, satS_retN, satS_asg, satS_if, satS_for, sat_comp, satS_par2, satS_par3, sat_ite, fin_ite, mdisp_at, mpairs_nil, mpairs_cons, mixd_at, mget2_at, mdict_at, mfz_at, mstar_at, mdzip_at, Res.bind_ok, Res.bind_bad, Res.bind_exc, List.getElem?_cons_zero, List.getElem?_cons_succ, List.getElem?_nil, List.map_cons, List.map_nil, List.cons_append, List.nil_append, List.append_nil, List.length_cons, List.length_nil, List.set_cons_zero, List.set_cons_succ, Option.map_some, Option.map_none, Option.isSome_some, List.replicate_succ, List.replicate_zero, if_true, if_false, reduceIte, Nat.reduceAdd, Nat.reduceSub, Nat.reduceLeDiff, Nat.reduceEqDiff, Nat.reduceLT, Bool.false_eq_true, and_self, and_true, true_and, List.drop_succ_cons, List.drop_zero, List.take_succ_cons, List.take_zero, Nat.zero_add, Nat.add_zero, Bool.not_true, Bool.not_false, Nat.sub_self, Nat.le_refl, Int.reduceLT, Int.reduceNeg, Nat.reducePow, Int.reducePow, Int.reduceToNat, Int.reduceAdd, Int.reduceSub, Int.reduceLE, Int.cast_ofNat_Int, Int.reduceBEq, List.flatten_cons, List.flatten_nil, Nat.reduceMul, Nat.one_mul, Nat.mul_one, Nat.mul_zero, Nat.zero_le, Int.reduceMul, r3]
  refine for_sat (J := fun _ e h' => (∃ o1 o2, e = [some (.ref n), some (.lst (qs.map .str)), some (.str LET), o1, o2, none]) ∧ Stp n h h') ⟨⟨none, none, rfl⟩, Stp.refl r⟩ (fun j x e h1 hx ⟨⟨o1, o2, he⟩, s1⟩ => ?_) fun e h1 ⟨⟨o1, o2, he⟩, s1⟩ => ?_
  · subst he
    simp only [gname_at, satO_some, satS_seq, satS_asg]
    refine word_sat (i := 5) (L := LET) (k4 := 8) s1.rng rfl rfl (by decide) (by simp) let_c26 rfl (by decide) (by decide) fun z h2 s2 g1 g8 gc => ?_
    simp only [mc_at, mvar_at, mnil_at, mcons_at, mop1_at, mop2_at, mtup_at, mlst_at, mfun_at, mand_at, mor_at, mnot_at, mandT_at, morT_at, mnotT_at, mtru_at, mbl_at, mite_at, mchain_at, mcall_at, mcallN_at, mmeth_at, msl_at, mpart0, mpart1, mdic0_at, iseq_at, irng_at, fin_none, fin_v, fin_newF, fin_newT, resM_some, resM_none, isLst_ref, lstOf_ref, lstOf_lst, seqOf_tup, seqOf_lst, seqOf_ref, seqOf_scr, truth_bl, forLoop_nil, gname_at, gtup_at, gtup_lst, go_nil, go_cons, gstar_at, gsub_at, startE_at, wipeE_nil, wipeE_cons, isi_at, len_at, all_lst, tuple_at, list_at, isN_eq, isN_ne, isN_in, isN_notIn, cmp_int, add_int, sub_int, mod_int, fdiv_int, mul_int, mul_lst, add_lst, add_refL, app_at, join_at, isStr_str, add_tup, add_str, int_bl, int_int, sl_tup, sl_lst, sl_str, pow_int, neg_int, ix_tup, ix_lst, ix_ref, ix_scr, sat_ok, sat_exc, sat_bad, sat_bind, satS_some, satS_none, satO_some, satO_none, toRet_nx, toRet_ret, toRet_exc, sat_run, toSeq_nx, toSeq_ret, toSeq_exc, toSeq_bk, toSeq_ct, satS_seq, satS_pass, satS_brk, satS_cnt, satS_expr, satS_ret, satS_retN, satS_asg, satS_if, satS_for, sat_comp, satS_par2, satS_par3, sat_ite, fin_ite, mdisp_at, mpairs_nil, mpairs_cons, mixd_at, mget2_at, mdict_at, mfz_at, mstar_at, mdzip_at, Res.bind_ok, Res.bind_bad, Res.bind_exc, List.getElem?_cons_zero, List.getElem?_cons_succ, List.getElem?_nil, List.map_cons, List.map_nil, List.cons_append, List.nil_append, List.append_nil, List.length_cons, List.length_nil, List.set_cons_zero, List.set_cons_succ, Option.map_some, Option.map_none, Option.isSome_some, List.replicate_succ, List.replicate_zero, if_true, if_false, reduceIte, Nat.reduceAdd, Nat.reduceSub, Nat.reduceLeDiff, Nat.reduceEqDiff, Nat.reduceLT, Bool.false_eq_true, and_self, and_true, true_and, List.drop_succ_cons, List.drop_zero, List.take_succ_cons, List.take_zero, Nat.zero_add, Nat.add_zero, Bool.not_true, Bool.not_false, Nat.sub_self, Nat.le_refl, Int.reduceLT, Int.reduceNeg, Nat.reducePow, Int.reducePow, Int.reduceToNat, Int.reduceAdd, Int.reduceSub, Int.reduceLE, Int.cast_ofNat_Int, Int.reduceBEq, List.flatten_cons, List.flatten_nil, Nat.reduceMul, Nat.one_mul, Nat.mul_one, Nat.mul_zero, Nat.zero_le, Int.reduceMul, in_lst]
    cases em : memS qs z with
    | true => exact ⟨⟨_, _, rfl⟩, s1.trans s2⟩
    | false => exact k z h2 (s1.trans s2) ⟨⟨g1, by omega⟩, gc⟩ fun hm => by rw [memS_iff.mpr hm] at em; cases em
  · subst he
    simp only [mc_at, mvar_at, mnil_at, mcons_at, mop1_at, mop2_at, mtup_at, mlst_at, mfun_at, mand_at, mor_at, mnot_at, mandT_at, morT_at, mnotT_at, mtru_at, mbl_at, mite_at, mchain_at, mcall_at, mcallN_at, mmeth_at, msl_at, mpart0, mpart1, mdic0_at, iseq_at, irng_at, fin_none, fin_v, fin_newF, fin_newT, resM_some, resM_none, isLst_ref, lstOf_ref, lstOf_lst, seqOf_tup, seqOf_lst, seqOf_ref, seqOf_scr, truth_bl, forLoop_nil, gname_at, gtup_at, gtup_lst, go_nil, go_cons, gstar_at, gsub_at, startE_at, wipeE_nil, wipeE_cons, isi_at, len_at, all_lst, tuple_at, list_at, isN_eq, isN_ne, isN_in, isN_notIn, cmp_int, add_int, sub_int, mod_int, fdiv_int, mul_int, mul_lst, add_lst, add_refL, app_at, join_at, isStr_str, add_tup, add_str, int_bl, int_int, sl_tup, sl_lst, sl_str, pow_int, neg_int, ix_tup, ix_lst, ix_ref, ix_scr, sat_ok, sat_exc, sat_bad, sat_bind, satS_some, satS_none, satO_some, satO_none, toRet_nx, toRet_ret, toRet_exc, sat_run, toSeq_nx, toSeq_ret, toSeq_exc, toSeq_bk, toSeq_ct, satS_seq, satS_pass, satS_brk, satS_cnt, satS_expr, satS_ret, satS_retN, satS_asg, satS_if, satS_for, sat_comp, satS_par2, satS_par3, sat_ite, fin_ite, mdisp_at, mpairs_nil, mpairs_cons, mixd_at, mget2_at, mdict_at, mfz_at, mstar_at, mdzip_at, Res.bind_ok, Res.bind_bad, Res.bind_exc, List.getElem?_cons_zero, List.getElem?_cons_succ, List.getElem?_nil, List.map_cons, List.map_nil, List.cons_append, List.nil_append, List.append_nil, List.length_cons, List.length_nil, List.set_cons_zero, List.set_cons_succ, Option.map_some, Option.map_none, Option.isSome_some, List.replicate_succ, List.replicate_zero, if_true, if_false, reduceIte, Nat.reduceAdd, Nat.reduceSub, Nat.reduceLeDiff, Nat.reduceEqDiff, Nat.reduceLT, Bool.false_eq_true, and_self, and_true, true_and, List.drop_succ_cons, List.drop_zero, List.take_succ_cons, List.take_zero, Nat.zero_add, Nat.add_zero, Bool.not_true, Bool.not_false, Nat.sub_self, Nat.le_refl, Int.reduceLT, Int.reduceNeg, Nat.reducePow, Int.reducePow, Int.reduceToNat, Int.reduceAdd, Int.reduceSub, Int.reduceLE, Int.cast_ofNat_Int, Int.reduceBEq, List.flatten_cons, List.flatten_nil, Nat.reduceMul, Nat.one_mul, Nat.mul_one, Nat.mul_zero, Nat.zero_le, Int.reduceMul, r676]
    rw [comp_mapm (l := List.range 676) (f := fun j => D.str (two j)) fun j hj => by
      have hj' : j < 676 := List.mem_range.mp hj
      have a1 := let_at (j / 26) (by omega)
      have a2 := let_at (j % 26) (by omega)
      have b1 : ((j : Int) / 26) = ((j / 26 : Nat) : Int) := by omega
      have b2 : ((j : Int) % 26) = ((j % 26 : Nat) : Int) := by omega
      have l1 : ∀ a b : Nat, ((⟨#[a]⟩ : Str).length + (⟨#[b]⟩ : Str).length ≤ sizeLine) = True := fun a b => eq_true z2
      have l2 : ∀ a b : Nat, (((⟨#[a]⟩ : Str) ++ (⟨#[b]⟩ : Str)).length + ("x" : Str).length ≤ sizeLine) = True := fun a b => eq_true z3
      simp only [mc_at, mvar_at, mnil_at, mcons_at, mop1_at, mop2_at, mtup_at, mlst_at, mfun_at, mand_at, mor_at, mnot_at, mandT_at, morT_at, mnotT_at, mtru_at, mbl_at, mite_at, mchain_at, mcall_at, mcallN_at, mmeth_at, msl_at, mpart0, mpart1, mdic0_at, iseq_at, irng_at, fin_none, fin_v, fin_newF, fin_newT, resM_some, resM_none, isLst_ref, lstOf_ref, lstOf_lst, seqOf_tup, seqOf_lst, seqOf_ref, seqOf_scr, truth_bl, forLoop_nil, gname_at, gtup_at, gtup_lst, go_nil, go_cons, gstar_at, gsub_at, startE_at, wipeE_nil, wipeE_cons, isi_at, len_at, all_lst, tuple_at, list_at, isN_eq, isN_ne, isN_in, isN_notIn, cmp_int, add_int, sub_int, mod_int, fdiv_int, mul_int, mul_lst, add_lst, add_refL, app_at, join_at, isStr_str, add_tup, add_str, int_bl, int_int, sl_tup, sl_lst, sl_str, pow_int, neg_int, ix_tup, ix_lst, ix_ref, ix_scr, sat_ok, sat_exc, sat_bad, sat_bind, satS_some, satS_none, satO_some, satO_none, toRet_nx, toRet_ret, toRet_exc, sat_run, toSeq_nx, toSeq_ret, toSeq_exc, toSeq_bk, toSeq_ct, satS_seq, satS_pass, satS_brk, satS_cnt, satS_expr, satS_ret, satS_retN, satS_asg, satS_if, satS_for, sat_comp, satS_par2, satS_par3, sat_ite, fin_ite, mdisp_at, mpairs_nil, mpairs_cons, mixd_at, mget2_at, mdict_at, mfz_at, mstar_at, mdzip_at, Res.bind_ok, Res.bind_bad, Res.bind_exc, List.getElem?_cons_zero, List.getElem?_cons_succ, List.getElem?_nil, List.map_cons, List.map_nil, List.cons_append, List.nil_append, List.append_nil, List.length_cons, List.length_nil, List.set_cons_zero, List.set_cons_succ, Option.map_some, Option.map_none, Option.isSome_some, List.replicate_succ, List.replicate_zero, if_true, if_false, reduceIte, Nat.reduceAdd, Nat.reduceSub, Nat.reduceLeDiff, Nat.reduceEqDiff, Nat.reduceLT, Bool.false_eq_true, and_self, and_true, true_and, List.drop_succ_cons, List.drop_zero, List.take_succ_cons, List.take_zero, Nat.zero_add, Nat.add_zero, Bool.not_true, Bool.not_false, Nat.sub_self, Nat.le_refl, Int.reduceLT, Int.reduceNeg, Nat.reducePow, Int.reducePow, Int.reduceToNat, Int.reduceAdd, Int.reduceSub, Int.reduceLE, Int.cast_ofNat_Int, Int.reduceBEq, List.flatten_cons, List.flatten_nil, Nat.reduceMul, Nat.one_mul, Nat.mul_one, Nat.mul_zero, Nat.zero_le, Int.reduceMul, oIx, b1, b2, a1, a2, l1, l2]
      rfl]
    have hl : 676 ≤ sizeLine := len_le (by decide)
    simp only [mc_at, mvar_at, mnil_at, mcons_at, mop1_at, mop2_at, mtup_at, mlst_at, mfun_at, mand_at, mor_at, mnot_at, mandT_at, morT_at, mnotT_at, mtru_at, mbl_at, mite_at, mchain_at, mcall_at, mcallN_at, mmeth_at, msl_at, mpart0, mpart1, mdic0_at, iseq_at, irng_at, fin_none, fin_v, fin_newF, fin_newT, resM_some, resM_none, isLst_ref, lstOf_ref, lstOf_lst, seqOf_tup, seqOf_lst, seqOf_ref, seqOf_scr, truth_bl, forLoop_nil, gname_at, gtup_at, gtup_lst, go_nil, go_cons, gstar_at, gsub_at, startE_at, wipeE_nil, wipeE_cons, isi_at, len_at, all_lst, tuple_at, list_at, isN_eq, isN_ne, isN_in, isN_notIn, cmp_int, add_int, sub_int, mod_int, fdiv_int, mul_int, mul_lst, add_lst, add_refL, app_at, join_at, isStr_str, add_tup, add_str, int_bl, int_int, sl_tup, sl_lst, sl_str, pow_int, neg_int, ix_tup, ix_lst, ix_ref, ix_scr, sat_ok, sat_exc, sat_bad, sat_bind, satS_some, satS_none, satO_some, satO_none, toRet_nx, toRet_ret, toRet_exc, sat_run, toSeq_nx, toSeq_ret, toSeq_exc, toSeq_bk, toSeq_ct, satS_seq, satS_pass, satS_brk, satS_cnt, satS_expr, satS_ret, satS_retN, satS_asg, satS_if, satS_for, sat_comp, satS_par2, satS_par3, sat_ite, fin_ite, mdisp_at, mpairs_nil, mpairs_cons, mixd_at, mget2_at, mdict_at, mfz_at, mstar_at, mdzip_at, Res.bind_ok, Res.bind_bad, Res.bind_exc, List.getElem?_cons_zero, List.getElem?_cons_succ, List.getElem?_nil, List.map_cons, List.map_nil, List.cons_append, List.nil_append, List.append_nil, List.length_cons, List.length_nil, List.set_cons_zero, List.set_cons_succ, Option.map_some, Option.map_none, Option.isSome_some, List.replicate_succ, List.replicate_zero, if_true, if_false, reduceIte, Nat.reduceAdd, Nat.reduceSub, Nat.reduceLeDiff, Nat.reduceEqDiff, Nat.reduceLT, Bool.false_eq_true, and_self, and_true, true_and, List.drop_succ_cons, List.drop_zero, List.take_succ_cons, List.take_zero, Nat.zero_add, Nat.add_zero, Bool.not_true, Bool.not_false, Nat.sub_self, Nat.le_refl, Int.reduceLT, Int.reduceNeg, Nat.reducePow, Int.reducePow, Int.reduceToNat, Int.reduceAdd, Int.reduceSub, Int.reduceLE, Int.cast_ofNat_Int, Int.reduceBEq, List.flatten_cons, List.flatten_nil, Nat.reduceMul, Nat.one_mul, Nat.mul_one, Nat.mul_zero, Nat.zero_le, Int.reduceMul, List.length_map, List.length_range, itemsOf]
    rw [show (List.range 676).map (fun j => D.str (two j)) = ((List.range 676).map two).map D.str from (List.map_map ..).symm]
    rw [comp_filtm (l := (List.range 676).map two) (f := D.str) (p := fun z => !memS qs z) fun z hz => ⟨by simp only [mc_at, mvar_at, mnil_at, mcons_at, mop1_at, mop2_at, mtup_at, mlst_at, mfun_at, mand_at, mor_at, mnot_at, mandT_at, morT_at, mnotT_at, mtru_at, mbl_at, mite_at, mchain_at, mcall_at, mcallN_at, mmeth_at, msl_at, mpart0, mpart1, mdic0_at, iseq_at, irng_at, fin_none, fin_v, fin_newF, fin_newT, resM_some, resM_none, isLst_ref, lstOf_ref, lstOf_lst, seqOf_tup, seqOf_lst, seqOf_ref, seqOf_scr, truth_bl, forLoop_nil, gname_at, gtup_at, gtup_lst, go_nil, go_cons, gstar_at, gsub_at, startE_at, wipeE_nil, wipeE_cons, isi_at, len_at, all_lst, tuple_at, list_at, isN_eq, isN_ne, isN_in, isN_notIn, cmp_int, add_int, sub_int, mod_int, fdiv_int, mul_int, mul_lst, add_lst, add_refL, app_at, join_at, isStr_str, add_tup, add_str, int_bl, int_int, sl_tup, sl_lst, sl_str, pow_int, neg_int, ix_tup, ix_lst, ix_ref, ix_scr, sat_ok, sat_exc, sat_bad, sat_bind, satS_some, satS_none, satO_some, satO_none, toRet_nx, toRet_ret, toRet_exc, sat_run, toSeq_nx, toSeq_ret, toSeq_exc, toSeq_bk, toSeq_ct, satS_seq, satS_pass, satS_brk, satS_cnt, satS_expr, satS_ret, satS_retN, satS_asg, satS_if, satS_for, sat_comp, satS_par2, satS_par3, sat_ite, fin_ite, mdisp_at, mpairs_nil, mpairs_cons, mixd_at, mget2_at, mdict_at, mfz_at, mstar_at, mdzip_at, Res.bind_ok, Res.bind_bad, Res.bind_exc, List.getElem?_cons_zero, List.getElem?_cons_succ, List.getElem?_nil, List.map_cons, List.map_nil, List.cons_append, List.nil_append, List.append_nil, List.length_cons, List.length_nil, List.set_cons_zero, List.set_cons_succ, Option.map_some, Option.map_none, Option.isSome_some, List.replicate_succ, List.replicate_zero, if_true, if_false, reduceIte, Nat.reduceAdd, Nat.reduceSub, Nat.reduceLeDiff, Nat.reduceEqDiff, Nat.reduceLT, Bool.false_eq_true, and_self, and_true, true_and, List.drop_succ_cons, List.drop_zero, List.take_succ_cons, List.take_zero, Nat.zero_add, Nat.add_zero, Bool.not_true, Bool.not_false, Nat.sub_self, Nat.le_refl, Int.reduceLT, Int.reduceNeg, Nat.reducePow, Int.reducePow, Int.reduceToNat, Int.reduceAdd, Int.reduceSub, Int.reduceLE, Int.cast_ofNat_Int, Int.reduceBEq, List.flatten_cons, List.flatten_nil, Nat.reduceMul, Nat.one_mul, Nat.mul_one, Nat.mul_zero, Nat.zero_le, Int.reduceMul, in_lst], by simp only [mc_at, mvar_at, mnil_at, mcons_at, mop1_at, mop2_at, mtup_at, mlst_at, mfun_at, mand_at, mor_at, mnot_at, mandT_at, morT_at, mnotT_at, mtru_at, mbl_at, mite_at, mchain_at, mcall_at, mcallN_at, mmeth_at, msl_at, mpart0, mpart1, mdic0_at, iseq_at, irng_at, fin_none, fin_v, fin_newF, fin_newT, resM_some, resM_none, isLst_ref, lstOf_ref, lstOf_lst, seqOf_tup, seqOf_lst, seqOf_ref, seqOf_scr, truth_bl, forLoop_nil, gname_at, gtup_at, gtup_lst, go_nil, go_cons, gstar_at, gsub_at, startE_at, wipeE_nil, wipeE_cons, isi_at, len_at, all_lst, tuple_at, list_at, isN_eq, isN_ne, isN_in, isN_notIn, cmp_int, add_int, sub_int, mod_int, fdiv_int, mul_int, mul_lst, add_lst, add_refL, app_at, join_at, isStr_str, add_tup, add_str, int_bl, int_int, sl_tup, sl_lst, sl_str, pow_int, neg_int, ix_tup, ix_lst, ix_ref, ix_scr, sat_ok, sat_exc, sat_bad, sat_bind, satS_some, satS_none, satO_some, satO_none, toRet_nx, toRet_ret, toRet_exc, sat_run, toSeq_nx, toSeq_ret, toSeq_exc, toSeq_bk, toSeq_ct, satS_seq, satS_pass, satS_brk, satS_cnt, satS_expr, satS_ret, satS_retN, satS_asg, satS_if, satS_for, sat_comp, satS_par2, satS_par3, sat_ite, fin_ite, mdisp_at, mpairs_nil, mpairs_cons, mixd_at, mget2_at, mdict_at, mfz_at, mstar_at, mdzip_at, Res.bind_ok, Res.bind_bad, Res.bind_exc, List.getElem?_cons_zero, List.getElem?_cons_succ, List.getElem?_nil, List.map_cons, List.map_nil, List.cons_append, List.nil_append, List.append_nil, List.length_cons, List.length_nil, List.set_cons_zero, List.set_cons_succ, Option.map_some, Option.map_none, Option.isSome_some, List.replicate_succ, List.replicate_zero, if_true, if_false, reduceIte, Nat.reduceAdd, Nat.reduceSub, Nat.reduceLeDiff, Nat.reduceEqDiff, Nat.reduceLT, Bool.false_eq_true, and_self, and_true, true_and, List.drop_succ_cons, List.drop_zero, List.take_succ_cons, List.take_zero, Nat.zero_add, Nat.add_zero, Bool.not_true, Bool.not_false, Nat.sub_self, Nat.le_refl, Int.reduceLT, Int.reduceNeg, Nat.reducePow, Int.reducePow, Int.reduceToNat, Int.reduceAdd, Int.reduceSub, Int.reduceLE, Int.cast_ofNat_Int, Int.reduceBEq, List.flatten_cons, List.flatten_nil, Nat.reduceMul, Nat.one_mul, Nat.mul_one, Nat.mul_zero, Nat.zero_le, Int.reduceMul]⟩]
    obtain ⟨z, l, ez⟩ := free_of (qs := qs) two_nd (by simp; omega)
    simp only [mc_at, mvar_at, mnil_at, mcons_at, mop1_at, mop2_at, mtup_at, mlst_at, mfun_at, mand_at, mor_at, mnot_at, mandT_at, morT_at, mnotT_at, mtru_at, mbl_at, mite_at, mchain_at, mcall_at, mcallN_at, mmeth_at, msl_at, mpart0, mpart1, mdic0_at, iseq_at, irng_at, fin_none, fin_v, fin_newF, fin_newT, resM_some, resM_none, isLst_ref, lstOf_ref, lstOf_lst, seqOf_tup, seqOf_lst, seqOf_ref, seqOf_scr, truth_bl, forLoop_nil, gname_at, gtup_at, gtup_lst, go_nil, go_cons, gstar_at, gsub_at, startE_at, wipeE_nil, wipeE_cons, isi_at, len_at, all_lst, tuple_at, list_at, isN_eq, isN_ne, isN_in, isN_notIn, cmp_int, add_int, sub_int, mod_int, fdiv_int, mul_int, mul_lst, add_lst, add_refL, app_at, join_at, isStr_str, add_tup, add_str, int_bl, int_int, sl_tup, sl_lst, sl_str, pow_int, neg_int, ix_tup, ix_lst, ix_ref, ix_scr, sat_ok, sat_exc, sat_bad, sat_bind, satS_some, satS_none, satO_some, satO_none, toRet_nx, toRet_ret, toRet_exc, sat_run, toSeq_nx, toSeq_ret, toSeq_exc, toSeq_bk, toSeq_ct, satS_seq, satS_pass, satS_brk, satS_cnt, satS_expr, satS_ret, satS_retN, satS_asg, satS_if, satS_for, sat_comp, satS_par2, satS_par3, sat_ite, fin_ite, mdisp_at, mpairs_nil, mpairs_cons, mixd_at, mget2_at, mdict_at, mfz_at, mstar_at, mdzip_at, Res.bind_ok, Res.bind_bad, Res.bind_exc, List.getElem?_cons_zero, List.getElem?_cons_succ, List.getElem?_nil, List.map_cons, List.map_nil, List.cons_append, List.nil_append, List.append_nil, List.length_cons, List.length_nil, List.set_cons_zero, List.set_cons_succ, Option.map_some, Option.map_none, Option.isSome_some, List.replicate_succ, List.replicate_zero, if_true, if_false, reduceIte, Nat.reduceAdd, Nat.reduceSub, Nat.reduceLeDiff, Nat.reduceEqDiff, Nat.reduceLT, Bool.false_eq_true, and_self, and_true, true_and, List.drop_succ_cons, List.drop_zero, List.take_succ_cons, List.take_zero, Nat.zero_add, Nat.add_zero, Bool.not_true, Bool.not_false, Nat.sub_self, Nat.le_refl, Int.reduceLT, Int.reduceNeg, Nat.reducePow, Int.reducePow, Int.reduceToNat, Int.reduceAdd, Int.reduceSub, Int.reduceLE, Int.cast_ofNat_Int, Int.reduceBEq, List.flatten_cons, List.flatten_nil, Nat.reduceMul, Nat.one_mul, Nat.mul_one, Nat.mul_zero, Nat.zero_le, Int.reduceMul, ez, at0]
    have hz : z ∈ ((List.range 676).map two).filter (fun z => !memS qs z) := by rw [ez]; exact List.mem_cons_self
    obtain ⟨j, hj, rfl⟩ := List.mem_map.mp (List.mem_filter.mp hz).1
    have hf := (List.mem_filter.mp hz).2
    exact k _ h1 s1 (two_low (List.mem_range.mp hj)) fun hm => by rw [memS_iff.mpr hm] at hf; cases hf
theorem add_refR (m : Nat) (a : List D) : oAdd (.lst a) (.ref m) h = (match lstOf (.ref m) h with
  | some b => if a.length + b.length ≤ sizeLine then some (.new (a ++ b)) else none
  | none => none) := by
  show (match lstOf (.lst a) h, lstOf (.ref m) h with
    | some xs, some ys => if xs.length + ys.length ≤ sizeLine then some (OV.new (xs ++ ys)) else none
    | _, _ => none) = _
  cases lstOf (.ref m) h <;> rfl
theorem names_satU (r : RngAt h n) {m : Nat} (hm : m ≤ 50) {us : List Str} (hu : us.length ≤ 50) (k : ∀ (zs : List Str) (h' : Hd), Stp n h h' → zs.length = m → (∀ z ∈ zs, Low z) → (∀ z ∈ zs, z ∉ us) → zs.Nodup → Q (.lst (zs.map .str)) h') : Sat (F__law_names [.ref n, .int (m : Int), .lst (us.map .str)] h) Q E := by
  simp only [F__law_names, m__law_names, mc_at, mvar_at, mnil_at, mcons_at, mop1_at, mop2_at, mtup_at, mlst_at, mfun_at, mand_at, mor_at, mnot_at, mandT_at, morT_at, mnotT_at, mtru_at, mbl_at, mite_at, mchain_at, mcall_at, mcallN_at, mmeth_at, msl_at, mpart0, mpart1, mdic0_at, iseq_at, irng_at, fin_none, fin_v, fin_newF, fin_newT, resM_some, resM_none, isLst_ref, lstOf_ref, lstOf_lst, seqOf_tup, seqOf_lst, seqOf_ref, seqOf_scr, truth_bl, forLoop_nil, gname_at, gtup_at, gtup_lst, go_nil, go_cons, gstar_at, gsub_at, startE_at, wipeE_nil, wipeE_cons, isi_at, len_at, all_lst, tuple_at, list_at, isN_eq, isN_ne, isN_in, isN_notIn, cmp_int, add_int, sub_int, mod_int, fdiv_int, mul_int, mul_lst, add_lst, add_refL, app_at, join_at, isStr_str, add_tup, add_str, int_bl, int_int, sl_tup, sl_lst, sl_str, pow_int, neg_int, ix_tup, ix_lst, ix_ref, ix_scr, sat_ok, sat_exc, sat_bad, sat_bind, satS_some, satS_none, satO_some, satO_none, toRet_nx, toRet_ret, toRet_exc, sat_run, toSeq_nx, toSeq_ret, toSeq_exc, toSeq_bk, toSeq_ct, satS_seq, satS_pass, satS_brk, satS_cnt, satS_expr, satS_ret, satS_retN, satS_asg, satS_if, satS_for, sat_comp, satS_par2, satS_par3, sat_ite, fin_ite, mdisp_at, mpairs_nil, mpairs_cons, mixd_at, mget2_at, mdict_at, mfz_at, mstar_at, mdzip_at, Res.bind_ok, Res.bind_bad, Res.bind_exc, List.getElem?_cons_zero, List.getElem?_cons_succ, List.getElem?_nil, List.map_cons, List.map_nil, List.cons_append, List.nil_append, List.append_nil, List.length_cons, List.length_nil, List.set_cons_zero, List.set_cons_succ, Option.map_some, Option.map_none, Option.isSome_some, List.replicate_succ, List.replicate_zero, if_true, if_false, reduceIte, Nat.reduceAdd, Nat.reduceSub, Nat.reduceLeDiff, Nat.reduceEqDiff, Nat.reduceLT, Bool.false_eq_true, and_self, and_true, true_and, List.drop_succ_cons, List.drop_zero, List.take_succ_cons, List.take_zero, Nat.zero_add, Nat.add_zero, Bool.not_true, Bool.not_false, Nat.sub_self, Nat.le_refl, Int.reduceLT, Int.reduceNeg, Nat.reducePow, Int.reducePow, Int.reduceToNat, Int.reduceAdd, Int.reduceSub, Int.reduceLE, Int.cast_ofNat_Int, Int.reduceBEq, List.flatten_cons, List.flatten_nil, Nat.reduceMul, Nat.one_mul, Nat.mul_one, Nat.mul_zero, Nat.zero_le, Int.reduceMul, range_ok (n := m) (by omega)]
  have z0 : 0 ≤ sizeLine := Nat.zero_le _
  refine for_sat (J := fun j e h' => (∃ o, e = [some (.ref n), some (.int (m : Int)), some (.lst (us.map .str)), some (.ref h.length), o]) ∧ Stp n h h' ∧ ∃ zs : List Str, h'[h.length]? = some (.lst (zs.map .str)) ∧ zs.length = j ∧ (∀ z ∈ zs, Low z) ∧ (∀ z ∈ zs, z ∉ us) ∧ zs.Nodup)
    ⟨⟨none, rfl⟩, Stp.push r _, [], by simp, rfl, (fun _ z => nomatch z), (fun _ z => nomatch z), .nil⟩ (fun j x e h1 hx ⟨⟨o, he⟩, s1, zs, e1, l1, p1, p2, p3⟩ => ?_) fun e h1 ⟨⟨o, he⟩, s1, zs, e1, l1, p1, p2, p3⟩ => ?_
  · subst he
    have hj : j < m := by
      have := (List.getElem?_eq_some_iff.mp hx).1
      simpa using this
    have zl : us.length + zs.length ≤ sizeLine := len_le (by omega)
    simp only [mc_at, mvar_at, mnil_at, mcons_at, mop1_at, mop2_at, mtup_at, mlst_at, mfun_at, mand_at, mor_at, mnot_at, mandT_at, morT_at, mnotT_at, mtru_at, mbl_at, mite_at, mchain_at, mcall_at, mcallN_at, mmeth_at, msl_at, mpart0, mpart1, mdic0_at, iseq_at, irng_at, fin_none, fin_v, fin_newF, fin_newT, resM_some, resM_none, isLst_ref, lstOf_ref, lstOf_lst, seqOf_tup, seqOf_lst, seqOf_ref, seqOf_scr, truth_bl, forLoop_nil, gname_at, gtup_at, gtup_lst, go_nil, go_cons, gstar_at, gsub_at, startE_at, wipeE_nil, wipeE_cons, isi_at, len_at, all_lst, tuple_at, list_at, isN_eq, isN_ne, isN_in, isN_notIn, cmp_int, add_int, sub_int, mod_int, fdiv_int, mul_int, mul_lst, add_lst, add_refL, app_at, join_at, isStr_str, add_tup, add_str, int_bl, int_int, sl_tup, sl_lst, sl_str, pow_int, neg_int, ix_tup, ix_lst, ix_ref, ix_scr, sat_ok, sat_exc, sat_bad, sat_bind, satS_some, satS_none, satO_some, satO_none, toRet_nx, toRet_ret, toRet_exc, sat_run, toSeq_nx, toSeq_ret, toSeq_exc, toSeq_bk, toSeq_ct, satS_seq, satS_pass, satS_brk, satS_cnt, satS_expr, satS_ret, satS_retN, satS_asg, satS_if, satS_for, sat_comp, satS_par2, satS_par3, sat_ite, fin_ite, mdisp_at, mpairs_nil, mpairs_cons, mixd_at, mget2_at, mdict_at, mfz_at, mstar_at, mdzip_at, Res.bind_ok, Res.bind_bad, Res.bind_exc, List.getElem?_cons_zero, List.getElem?_cons_succ, List.getElem?_nil, List.map_cons, List.map_nil, List.cons_append, List.nil_append, List.append_nil, List.length_cons, List.length_nil, List.set_cons_zero, List.set_cons_succ, Option.map_some, Option.map_none, Option.isSome_some, List.replicate_succ, List.replicate_zero, if_true, if_false, reduceIte, Nat.reduceAdd, Nat.reduceSub, Nat.reduceLeDiff, Nat.reduceEqDiff, Nat.reduceLT, Bool.false_eq_true, and_self, and_true, true_and, List.drop_succ_cons, List.drop_zero, List.take_succ_cons, List.take_zero, Nat.zero_add, Nat.add_zero, Bool.not_true, Bool.not_false, Nat.sub_self, Nat.le_refl, Int.reduceLT, Int.reduceNeg, Nat.reducePow, Int.reducePow, Int.reduceToNat, Int.reduceAdd, Int.reduceSub, Int.reduceLE, Int.cast_ofNat_Int, Int.reduceBEq, List.flatten_cons, List.flatten_nil, Nat.reduceMul, Nat.one_mul, Nat.mul_one, Nat.mul_zero, Nat.zero_le, Int.reduceMul, add_refR, e1, List.length_map, zl]
    rw [← List.map_append]
    refine name_sat (qs := us ++ zs) s1.rng (by rw [List.length_append]; omega) fun z h2 s2 lz nz => ?_
    have hl := (List.getElem?_eq_some_iff.mp e1).1
    have e2 : h2[h.length]? = some (.lst (zs.map .str)) := (s2.same h.length hl (by have := r.lt; omega)).trans e1
    have hl2 := (List.getElem?_eq_some_iff.mp e2).1
    have zq : zs.length < sizeLine := by have := len_le (show zs.length + 1 ≤ 1000 by omega); omega
    have s3 := s1.trans s2
    simp only [mc_at, mvar_at, mnil_at, mcons_at, mop1_at, mop2_at, mtup_at, mlst_at, mfun_at, mand_at, mor_at, mnot_at, mandT_at, morT_at, mnotT_at, mtru_at, mbl_at, mite_at, mchain_at, mcall_at, mcallN_at, mmeth_at, msl_at, mpart0, mpart1, mdic0_at, iseq_at, irng_at, fin_none, fin_v, fin_newF, fin_newT, resM_some, resM_none, isLst_ref, lstOf_ref, lstOf_lst, seqOf_tup, seqOf_lst, seqOf_ref, seqOf_scr, truth_bl, forLoop_nil, gname_at, gtup_at, gtup_lst, go_nil, go_cons, gstar_at, gsub_at, startE_at, wipeE_nil, wipeE_cons, isi_at, len_at, all_lst, tuple_at, list_at, isN_eq, isN_ne, isN_in, isN_notIn, cmp_int, add_int, sub_int, mod_int, fdiv_int, mul_int, mul_lst, add_lst, add_refL, app_at, join_at, isStr_str, add_tup, add_str, int_bl, int_int, sl_tup, sl_lst, sl_str, pow_int, neg_int, ix_tup, ix_lst, ix_ref, ix_scr, sat_ok, sat_exc, sat_bad, sat_bind, satS_some, satS_none, satO_some, satO_none, toRet_nx, toRet_ret, toRet_exc, sat_run, toSeq_nx, toSeq_ret, toSeq_exc, toSeq_bk, toSeq_ct, satS_seq, satS_pass, satS_brk, satS_cnt, satS_expr, satS_ret, satS_retN, satS_asg, satS_if, satS_for, sat_comp, satS_par2, satS_par3, sat_ite, fin_ite, mdisp_at, mpairs_nil, mpairs_cons, mixd_at, mget2_at, mdict_at, mfz_at, mstar_at, mdzip_at, Res.bind_ok, Res.bind_bad, Res.bind_exc, List.getElem?_cons_zero, List.getElem?_cons_succ, List.getElem?_nil, List.map_cons, List.map_nil, List.cons_append, List.nil_append, List.append_nil, List.length_cons, List.length_nil, List.set_cons_zero, List.set_cons_succ, Option.map_some, Option.map_none, Option.isSome_some, List.replicate_succ, List.replicate_zero, if_true, if_false, reduceIte, Nat.reduceAdd, Nat.reduceSub, Nat.reduceLeDiff, Nat.reduceEqDiff, Nat.reduceLT, Bool.false_eq_true, and_self, and_true, true_and, List.drop_succ_cons, List.drop_zero, List.take_succ_cons, List.take_zero, Nat.zero_add, Nat.add_zero, Bool.not_true, Bool.not_false, Nat.sub_self, Nat.le_refl, Int.reduceLT, Int.reduceNeg, Nat.reducePow, Int.reducePow, Int.reduceToNat, Int.reduceAdd, Int.reduceSub, Int.reduceLE, Int.cast_ofNat_Int, Int.reduceBEq, List.flatten_cons, List.flatten_nil, Nat.reduceMul, Nat.one_mul, Nat.mul_one, Nat.mul_zero, Nat.zero_le, Int.reduceMul, e2, List.length_map, zq]
    have n1 : z ∉ us := fun hm => nz (List.mem_append_left _ hm)
    have n2 : z ∉ zs := fun hm => nz (List.mem_append_right _ hm)
    refine ⟨⟨_, rfl⟩, s3.put (Nat.le_refl _) r.lt, zs ++ [z], by rw [List.getElem?_set_self hl2]; simp, by simp [l1], fun y hy => ?_, fun y hy => ?_, ?_⟩
    · rcases List.mem_append.mp hy with hy | hy
      · exact p1 y hy
      · rw [List.mem_singleton.mp hy]; exact lz
    · rcases List.mem_append.mp hy with hy | hy
      · exact p2 y hy
      · rw [List.mem_singleton.mp hy]; exact n1
    · rw [List.nodup_append]
      exact ⟨p3, by simp, fun a ha b hb => by rw [List.mem_singleton.mp hb]; exact fun q => n2 (q ▸ ha)⟩
  · subst he
    simp only [mc_at, mvar_at, mnil_at, mcons_at, mop1_at, mop2_at, mtup_at, mlst_at, mfun_at, mand_at, mor_at, mnot_at, mandT_at, morT_at, mnotT_at, mtru_at, mbl_at, mite_at, mchain_at, mcall_at, mcallN_at, mmeth_at, msl_at, mpart0, mpart1, mdic0_at, iseq_at, irng_at, fin_none, fin_v, fin_newF, fin_newT, resM_some, resM_none, isLst_ref, lstOf_ref, lstOf_lst, seqOf_tup, seqOf_lst, seqOf_ref, seqOf_scr, truth_bl, forLoop_nil, gname_at, gtup_at, gtup_lst, go_nil, go_cons, gstar_at, gsub_at, startE_at, wipeE_nil, wipeE_cons, isi_at, len_at, all_lst, tuple_at, list_at, isN_eq, isN_ne, isN_in, isN_notIn, cmp_int, add_int, sub_int, mod_int, fdiv_int, mul_int, mul_lst, add_lst, add_refL, app_at, join_at, isStr_str, add_tup, add_str, int_bl, int_int, sl_tup, sl_lst, sl_str, pow_int, neg_int, ix_tup, ix_lst, ix_ref, ix_scr, sat_ok, sat_exc, sat_bad, sat_bind, satS_some, satS_none, satO_some, satO_none, toRet_nx, toRet_ret, toRet_exc, sat_run, toSeq_nx, toSeq_ret, toSeq_exc, toSeq_bk, toSeq_ct, satS_seq, satS_pass, satS_brk, satS_cnt, satS_expr, satS_ret, satS_retN, satS_asg, satS_if, satS_for, sat_comp, satS_par2, satS_par3, sat_ite, fin_ite, mdisp_at, mpairs_nil, mpairs_cons, mixd_at, mget2_at, mdict_at, mfz_at, mstar_at, mdzip_at, Res.bind_ok, Res.bind_bad, Res.bind_exc, List.getElem?_cons_zero, List.getElem?_cons_succ, List.getElem?_nil, List.map_cons, List.map_nil, List.cons_append, List.nil_append, List.append_nil, List.length_cons, List.length_nil, List.set_cons_zero, List.set_cons_succ, Option.map_some, Option.map_none, Option.isSome_some, List.replicate_succ, List.replicate_zero, if_true, if_false, reduceIte, Nat.reduceAdd, Nat.reduceSub, Nat.reduceLeDiff, Nat.reduceEqDiff, Nat.reduceLT, Bool.false_eq_true, and_self, and_true, true_and, List.drop_succ_cons, List.drop_zero, List.take_succ_cons, List.take_zero, Nat.zero_add, Nat.add_zero, Bool.not_true, Bool.not_false, Nat.sub_self, Nat.le_refl, Int.reduceLT, Int.reduceNeg, Nat.reducePow, Int.reducePow, Int.reduceToNat, Int.reduceAdd, Int.reduceSub, Int.reduceLE, Int.cast_ofNat_Int, Int.reduceBEq, List.flatten_cons, List.flatten_nil, Nat.reduceMul, Nat.one_mul, Nat.mul_one, Nat.mul_zero, Nat.zero_le, Int.reduceMul, e1]
    exact k zs _ (s1.put (Nat.le_refl _) r.lt) (by simpa using l1) p1 p2 p3
theorem names_sat (r : RngAt h n) {m : Nat} (hm : m ≤ 50) (k : ∀ (zs : List Str) (h' : Hd), Stp n h h' → zs.length = m → (∀ z ∈ zs, Low z) → Q (.lst (zs.map .str)) h') : Sat (F__law_names [.ref n, .int (m : Int), .lst []] h) Q E :=
  names_satU r hm (us := []) (by decide) fun zs h' s l p _ _ => k zs h' s l p
/-- what stands in a drawn place -/
def spotOk (i : Int) : Prop := i ∈ ([0, 1, 2, 19, 100000000000000000000] : List Int)
theorem intD_of {ys : List D} {P : Int → Prop} (h : ∀ y ∈ ys, ∃ i, y = .int i ∧ P i) : ∃ is : List Int, ys = is.map .int ∧ (∀ i ∈ is, P i) ∧ is.length = ys.length := by
  induction ys with
  | nil => exact ⟨[], rfl, (fun _ z => nomatch z), rfl⟩
  | cons y ys ih =>
    obtain ⟨i, rfl, hi⟩ := h y List.mem_cons_self
    obtain ⟨is, rfl, a, l⟩ := ih fun z hz => h z (List.mem_cons_of_mem _ hz)
    exact ⟨i :: is, rfl, fun z hz => by
      rcases List.mem_cons.mp hz with rfl | hz
      · exact hi
      · exact a z hz, by simp⟩
theorem spot_sat (r : RngAt h n) (k : ∀ (is : List Int) (h' : Hd), Stp n h h' → is.length ≤ 36 → (∀ i ∈ is, spotOk i) → Q (.tup (is.map .int)) h') : Sat (F__law_spot [.ref n] h) Q E := by
  have z5 : 5 ≤ sizeLine := len_le (by decide)
  have z4 : 4 ≤ sizeLine := len_le (by decide)
  simp only [F__law_spot, m__law_spot, mc_at, mvar_at, mnil_at, mcons_at, mop1_at, mop2_at, mtup_at, mlst_at, mfun_at, mand_at, mor_at, mnot_at, mandT_at, morT_at, mnotT_at, mtru_at, mbl_at, mite_at, mchain_at, mcall_at, mcallN_at, mmeth_at, msl_at, mpart0, mpart1, mdic0_at, iseq_at, irng_at, fin_none, fin_v, fin_newF, fin_newT, resM_some, resM_none, isLst_ref, lstOf_ref, lstOf_lst, seqOf_tup, seqOf_lst, seqOf_ref, seqOf_scr, truth_bl, forLoop_nil, gname_at, gtup_at, gtup_lst, go_nil, go_cons, gstar_at, gsub_at, startE_at, wipeE_nil, wipeE_cons, isi_at, len_at, all_lst, tuple_at, list_at, isN_eq, isN_ne, isN_in, isN_notIn, cmp_int, add_int, sub_int, mod_int, fdiv_int, mul_int, mul_lst, add_lst, add_refL, app_at, join_at, isStr_str, add_tup, add_str, int_bl, int_int, sl_tup, sl_lst, sl_str, pow_int, neg_int, ix_tup, ix_lst, ix_ref, ix_scr, sat_ok, sat_exc, sat_bad, sat_bind, satS_some, satS_none, satO_some, satO_none, toRet_nx, toRet_ret, toRet_exc, sat_run, toSeq_nx, toSeq_ret, toSeq_exc, toSeq_bk, toSeq_ct, satS_seq, satS_pass, satS_brk, satS_cnt, satS_expr, satS_ret, satS_retN, satS_asg, satS_if, satS_for, sat_comp, satS_par2, satS_par3, sat_ite, fin_ite, mdisp_at, mpairs_nil, mpairs_cons, mixd_at, mget2_at, mdict_at, mfz_at, mstar_at, mdzip_at, Res.bind_ok, Res.bind_bad, Res.bind_exc, List.getElem?_cons_zero, List.getElem?_cons_succ, List.getElem?_nil, List.map_cons, List.map_nil, List.cons_append, List.nil_append, List.append_nil, List.length_cons, List.length_nil, List.set_cons_zero, List.set_cons_succ, Option.map_some, Option.map_none, Option.isSome_some, List.replicate_succ, List.replicate_zero, if_true, if_false, reduceIte, Nat.reduceAdd, Nat.reduceSub, Nat.reduceLeDiff, Nat.reduceEqDiff, Nat.reduceLT, Bool.false_eq_true, and_self, and_true, true_and, List.drop_succ_cons, List.drop_zero, List.take_succ_cons, List.take_zero, Nat.zero_add, Nat.add_zero, Bool.not_true, Bool.not_false, Nat.sub_self, Nat.le_refl, Int.reduceLT, Int.reduceNeg, Nat.reducePow, Int.reducePow, Int.reduceToNat, Int.reduceAdd, Int.reduceSub, Int.reduceLE, Int.cast_ofNat_Int, Int.reduceBEq, List.flatten_cons, List.flatten_nil, Nat.reduceMul, Nat.one_mul, Nat.mul_one, Nat.mul_zero, Nat.zero_le, Int.reduceMul, z5, z4]
  refine draw_sat r (by decide) (by decide) fun x h1 s1 p1 q1 => ?_
  obtain ⟨c, rfl⟩ : ∃ c : Nat, x = (c : Int) := ⟨x.toNat, by omega⟩
  simp only [mc_at, mvar_at, mnil_at, mcons_at, mop1_at, mop2_at, mtup_at, mlst_at, mfun_at, mand_at, mor_at, mnot_at, mandT_at, morT_at, mnotT_at, mtru_at, mbl_at, mite_at, mchain_at, mcall_at, mcallN_at, mmeth_at, msl_at, mpart0, mpart1, mdic0_at, iseq_at, irng_at, fin_none, fin_v, fin_newF, fin_newT, resM_some, resM_none, isLst_ref, lstOf_ref, lstOf_lst, seqOf_tup, seqOf_lst, seqOf_ref, seqOf_scr, truth_bl, forLoop_nil, gname_at, gtup_at, gtup_lst, go_nil, go_cons, gstar_at, gsub_at, startE_at, wipeE_nil, wipeE_cons, isi_at, len_at, all_lst, tuple_at, list_at, isN_eq, isN_ne, isN_in, isN_notIn, cmp_int, add_int, sub_int, mod_int, fdiv_int, mul_int, mul_lst, add_lst, add_refL, app_at, join_at, isStr_str, add_tup, add_str, int_bl, int_int, sl_tup, sl_lst, sl_str, pow_int, neg_int, ix_tup, ix_lst, ix_ref, ix_scr, sat_ok, sat_exc, sat_bad, sat_bind, satS_some, satS_none, satO_some, satO_none, toRet_nx, toRet_ret, toRet_exc, sat_run, toSeq_nx, toSeq_ret, toSeq_exc, toSeq_bk, toSeq_ct, satS_seq, satS_pass, satS_brk, satS_cnt, satS_expr, satS_ret, satS_retN, satS_asg, satS_if, satS_for, sat_comp, satS_par2, satS_par3, sat_ite, fin_ite, mdisp_at, mpairs_nil, mpairs_cons, mixd_at, mget2_at, mdict_at, mfz_at, mstar_at, mdzip_at, Res.bind_ok, Res.bind_bad, Res.bind_exc, List.getElem?_cons_zero, List.getElem?_cons_succ, List.getElem?_nil, List.map_cons, List.map_nil, List.cons_append, List.nil_append, List.append_nil, List.length_cons, List.length_nil, List.set_cons_zero, List.set_cons_succ, Option.map_some, Option.map_none, Option.isSome_some, List.replicate_succ, List.replicate_zero, if_true, if_false, reduceIte, Nat.reduceAdd, Nat.reduceSub, Nat.reduceLeDiff, Nat.reduceEqDiff, Nat.reduceLT, Bool.false_eq_true, and_self, and_true, true_and, List.drop_succ_cons, List.drop_zero, List.take_succ_cons, List.take_zero, Nat.zero_add, Nat.add_zero, Bool.not_true, Bool.not_false, Nat.sub_self, Nat.le_refl, Int.reduceLT, Int.reduceNeg, Nat.reducePow, Int.reducePow, Int.reduceToNat, Int.reduceAdd, Int.reduceSub, Int.reduceLE, Int.cast_ofNat_Int, Int.reduceBEq, List.flatten_cons, List.flatten_nil, Nat.reduceMul, Nat.one_mul, Nat.mul_one, Nat.mul_zero, Nat.zero_le, Int.reduceMul, range_ok (n := c) (by omega)]
  refine comp_sat (J := fun _ h' => Stp n h1 h') (P := fun _ y => ∃ i, y = .int i ∧ spotOk i) (Stp.refl s1.rng) (fun j x h2 hx s2 => ?_) fun ys h2 hl hp s2 => ?_
  · have ten : (10 : Int).natAbs < 18446744073709551616 := by decide
    simp only [mc_at, mvar_at, mnil_at, mcons_at, mop1_at, mop2_at, mtup_at, mlst_at, mfun_at, mand_at, mor_at, mnot_at, mandT_at, morT_at, mnotT_at, mtru_at, mbl_at, mite_at, mchain_at, mcall_at, mcallN_at, mmeth_at, msl_at, mpart0, mpart1, mdic0_at, iseq_at, irng_at, fin_none, fin_v, fin_newF, fin_newT, resM_some, resM_none, isLst_ref, lstOf_ref, lstOf_lst, seqOf_tup, seqOf_lst, seqOf_ref, seqOf_scr, truth_bl, forLoop_nil, gname_at, gtup_at, gtup_lst, go_nil, go_cons, gstar_at, gsub_at, startE_at, wipeE_nil, wipeE_cons, isi_at, len_at, all_lst, tuple_at, list_at, isN_eq, isN_ne, isN_in, isN_notIn, cmp_int, add_int, sub_int, mod_int, fdiv_int, mul_int, mul_lst, add_lst, add_refL, app_at, join_at, isStr_str, add_tup, add_str, int_bl, int_int, sl_tup, sl_lst, sl_str, pow_int, neg_int, ix_tup, ix_lst, ix_ref, ix_scr, sat_ok, sat_exc, sat_bad, sat_bind, satS_some, satS_none, satO_some, satO_none, toRet_nx, toRet_ret, toRet_exc, sat_run, toSeq_nx, toSeq_ret, toSeq_exc, toSeq_bk, toSeq_ct, satS_seq, satS_pass, satS_brk, satS_cnt, satS_expr, satS_ret, satS_retN, satS_asg, satS_if, satS_for, sat_comp, satS_par2, satS_par3, sat_ite, fin_ite, mdisp_at, mpairs_nil, mpairs_cons, mixd_at, mget2_at, mdict_at, mfz_at, mstar_at, mdzip_at, Res.bind_ok, Res.bind_bad, Res.bind_exc, List.getElem?_cons_zero, List.getElem?_cons_succ, List.getElem?_nil, List.map_cons, List.map_nil, List.cons_append, List.nil_append, List.append_nil, List.length_cons, List.length_nil, List.set_cons_zero, List.set_cons_succ, Option.map_some, Option.map_none, Option.isSome_some, List.replicate_succ, List.replicate_zero, if_true, if_false, reduceIte, Nat.reduceAdd, Nat.reduceSub, Nat.reduceLeDiff, Nat.reduceEqDiff, Nat.reduceLT, Bool.false_eq_true, and_self, and_true, true_and, List.drop_succ_cons, List.drop_zero, List.take_succ_cons, List.take_zero, Nat.zero_add, Nat.add_zero, Bool.not_true, Bool.not_false, Nat.sub_self, Nat.le_refl, Int.reduceLT, Int.reduceNeg, Nat.reducePow, Int.reducePow, Int.reduceToNat, Int.reduceAdd, Int.reduceSub, Int.reduceLE, Int.cast_ofNat_Int, Int.reduceBEq, List.flatten_cons, List.flatten_nil, Nat.reduceMul, Nat.one_mul, Nat.mul_one, Nat.mul_zero, Nat.zero_le, Int.reduceMul, z5, ten]
    refine draw_sat s2.rng (by decide) (by decide) fun x h3 s3 p3 q3 => ?_
    obtain ⟨y, ey, my⟩ := at_in (xs := [D.int 0, .int 1, .int 2, .int 19, .int 100000000000000000000]) p3 q3
    simp only [mc_at, mvar_at, mnil_at, mcons_at, mop1_at, mop2_at, mtup_at, mlst_at, mfun_at, mand_at, mor_at, mnot_at, mandT_at, morT_at, mnotT_at, mtru_at, mbl_at, mite_at, mchain_at, mcall_at, mcallN_at, mmeth_at, msl_at, mpart0, mpart1, mdic0_at, iseq_at, irng_at, fin_none, fin_v, fin_newF, fin_newT, resM_some, resM_none, isLst_ref, lstOf_ref, lstOf_lst, seqOf_tup, seqOf_lst, seqOf_ref, seqOf_scr, truth_bl, forLoop_nil, gname_at, gtup_at, gtup_lst, go_nil, go_cons, gstar_at, gsub_at, startE_at, wipeE_nil, wipeE_cons, isi_at, len_at, all_lst, tuple_at, list_at, isN_eq, isN_ne, isN_in, isN_notIn, cmp_int, add_int, sub_int, mod_int, fdiv_int, mul_int, mul_lst, add_lst, add_refL, app_at, join_at, isStr_str, add_tup, add_str, int_bl, int_int, sl_tup, sl_lst, sl_str, pow_int, neg_int, ix_tup, ix_lst, ix_ref, ix_scr, sat_ok, sat_exc, sat_bad, sat_bind, satS_some, satS_none, satO_some, satO_none, toRet_nx, toRet_ret, toRet_exc, sat_run, toSeq_nx, toSeq_ret, toSeq_exc, toSeq_bk, toSeq_ct, satS_seq, satS_pass, satS_brk, satS_cnt, satS_expr, satS_ret, satS_retN, satS_asg, satS_if, satS_for, sat_comp, satS_par2, satS_par3, sat_ite, fin_ite, mdisp_at, mpairs_nil, mpairs_cons, mixd_at, mget2_at, mdict_at, mfz_at, mstar_at, mdzip_at, Res.bind_ok, Res.bind_bad, Res.bind_exc, List.getElem?_cons_zero, List.getElem?_cons_succ, List.getElem?_nil, List.map_cons, List.map_nil, List.cons_append, List.nil_append, List.append_nil, List.length_cons, List.length_nil, List.set_cons_zero, List.set_cons_succ, Option.map_some, Option.map_none, Option.isSome_some, List.replicate_succ, List.replicate_zero, if_true, if_false, reduceIte, Nat.reduceAdd, Nat.reduceSub, Nat.reduceLeDiff, Nat.reduceEqDiff, Nat.reduceLT, Bool.false_eq_true, and_self, and_true, true_and, List.drop_succ_cons, List.drop_zero, List.take_succ_cons, List.take_zero, Nat.zero_add, Nat.add_zero, Bool.not_true, Bool.not_false, Nat.sub_self, Nat.le_refl, Int.reduceLT, Int.reduceNeg, Nat.reducePow, Int.reducePow, Int.reduceToNat, Int.reduceAdd, Int.reduceSub, Int.reduceLE, Int.cast_ofNat_Int, Int.reduceBEq, List.flatten_cons, List.flatten_nil, Nat.reduceMul, Nat.one_mul, Nat.mul_one, Nat.mul_zero, Nat.zero_le, Int.reduceMul, ey]
    refine ⟨s2.trans s3, ?_⟩
    simp only [List.mem_cons, List.not_mem_nil, or_false] at my
    rcases my with rfl | rfl | rfl | rfl | rfl <;> exact ⟨_, rfl, by unfold spotOk; simp⟩
  · obtain ⟨is, rfl, hi, li⟩ := intD_of (P := spotOk) (ys := ys) fun y hy => by
      obtain ⟨j, hj⟩ := List.getElem?_of_mem hy
      exact hp j y hj
    simp only [List.length_map, List.length_range] at hl
    have l3 : is.length ≤ 3 := by omega
    have zl : (is.map D.int).length ≤ sizeLine := len_le (by rw [List.length_map]; omega)
    simp only [mc_at, mvar_at, mnil_at, mcons_at, mop1_at, mop2_at, mtup_at, mlst_at, mfun_at, mand_at, mor_at, mnot_at, mandT_at, morT_at, mnotT_at, mtru_at, mbl_at, mite_at, mchain_at, mcall_at, mcallN_at, mmeth_at, msl_at, mpart0, mpart1, mdic0_at, iseq_at, irng_at, fin_none, fin_v, fin_newF, fin_newT, resM_some, resM_none, isLst_ref, lstOf_ref, lstOf_lst, seqOf_tup, seqOf_lst, seqOf_ref, seqOf_scr, truth_bl, forLoop_nil, gname_at, gtup_at, gtup_lst, go_nil, go_cons, gstar_at, gsub_at, startE_at, wipeE_nil, wipeE_cons, isi_at, len_at, all_lst, tuple_at, list_at, isN_eq, isN_ne, isN_in, isN_notIn, cmp_int, add_int, sub_int, mod_int, fdiv_int, mul_int, mul_lst, add_lst, add_refL, app_at, join_at, isStr_str, add_tup, add_str, int_bl, int_int, sl_tup, sl_lst, sl_str, pow_int, neg_int, ix_tup, ix_lst, ix_ref, ix_scr, sat_ok, sat_exc, sat_bad, sat_bind, satS_some, satS_none, satO_some, satO_none, toRet_nx, toRet_ret, toRet_exc, sat_run, toSeq_nx, toSeq_ret, toSeq_exc, toSeq_bk, toSeq_ct, satS_seq, satS_pass, satS_brk, satS_cnt, satS_expr, satS_ret, satS_retN, satS_asg, satS_if, satS_for, sat_comp, satS_par2, satS_par3, sat_ite, fin_ite, mdisp_at, mpairs_nil, mpairs_cons, mixd_at, mget2_at, mdict_at, mfz_at, mstar_at, mdzip_at, Res.bind_ok, Res.bind_bad, Res.bind_exc, List.getElem?_cons_zero, List.getElem?_cons_succ, List.getElem?_nil, List.map_cons, List.map_nil, List.cons_append, List.nil_append, List.append_nil, List.length_cons, List.length_nil, List.set_cons_zero, List.set_cons_succ, Option.map_some, Option.map_none, Option.isSome_some, List.replicate_succ, List.replicate_zero, if_true, if_false, reduceIte, Nat.reduceAdd, Nat.reduceSub, Nat.reduceLeDiff, Nat.reduceEqDiff, Nat.reduceLT, Bool.false_eq_true, and_self, and_true, true_and, List.drop_succ_cons, List.drop_zero, List.take_succ_cons, List.take_zero, Nat.zero_add, Nat.add_zero, Bool.not_true, Bool.not_false, Nat.sub_self, Nat.le_refl, Int.reduceLT, Int.reduceNeg, Nat.reducePow, Int.reducePow, Int.reduceToNat, Int.reduceAdd, Int.reduceSub, Int.reduceLE, Int.cast_ofNat_Int, Int.reduceBEq, List.flatten_cons, List.flatten_nil, Nat.reduceMul, Nat.one_mul, Nat.mul_one, Nat.mul_zero, Nat.zero_le, Int.reduceMul, zl]
    refine draw_sat (s1.trans s2).rng (by decide) (by decide) fun x h3 s3 p3 q3 => ?_
    obtain ⟨y, ey, my⟩ := at_in (xs := [D.int 1, .int 1, .int 1, .int 12]) p3 q3
    obtain ⟨d, rfl, hd, hd0⟩ : ∃ d : Nat, y = .int (d : Int) ∧ d ≤ 12 ∧ d ≠ 0 := by
      simp only [List.mem_cons, List.not_mem_nil, or_false] at my
      rcases my with rfl | rfl | rfl | rfl
      · exact ⟨1, rfl, by decide, by decide⟩
      · exact ⟨1, rfl, by decide, by decide⟩
      · exact ⟨1, rfl, by decide, by decide⟩
      · exact ⟨12, rfl, by decide, by decide⟩
    simp only [mc_at, mvar_at, mnil_at, mcons_at, mop1_at, mop2_at, mtup_at, mlst_at, mfun_at, mand_at, mor_at, mnot_at, mandT_at, morT_at, mnotT_at, mtru_at, mbl_at, mite_at, mchain_at, mcall_at, mcallN_at, mmeth_at, msl_at, mpart0, mpart1, mdic0_at, iseq_at, irng_at, fin_none, fin_v, fin_newF, fin_newT, resM_some, resM_none, isLst_ref, lstOf_ref, lstOf_lst, seqOf_tup, seqOf_lst, seqOf_ref, seqOf_scr, truth_bl, forLoop_nil, gname_at, gtup_at, gtup_lst, go_nil, go_cons, gstar_at, gsub_at, startE_at, wipeE_nil, wipeE_cons, isi_at, len_at, all_lst, tuple_at, list_at, isN_eq, isN_ne, isN_in, isN_notIn, cmp_int, add_int, sub_int, mod_int, fdiv_int, mul_int, mul_lst, add_lst, add_refL, app_at, join_at, isStr_str, add_tup, add_str, int_bl, int_int, sl_tup, sl_lst, sl_str, pow_int, neg_int, ix_tup, ix_lst, ix_ref, ix_scr, sat_ok, sat_exc, sat_bad, sat_bind, satS_some, satS_none, satO_some, satO_none, toRet_nx, toRet_ret, toRet_exc, sat_run, toSeq_nx, toSeq_ret, toSeq_exc, toSeq_bk, toSeq_ct, satS_seq, satS_pass, satS_brk, satS_cnt, satS_expr, satS_ret, satS_retN, satS_asg, satS_if, satS_for, sat_comp, satS_par2, satS_par3, sat_ite, fin_ite, mdisp_at, mpairs_nil, mpairs_cons, mixd_at, mget2_at, mdict_at, mfz_at, mstar_at, mdzip_at, Res.bind_ok, Res.bind_bad, Res.bind_exc, List.getElem?_cons_zero, List.getElem?_cons_succ, List.getElem?_nil, List.map_cons, List.map_nil, List.cons_append, List.nil_append, List.append_nil, List.length_cons, List.length_nil, List.set_cons_zero, List.set_cons_succ, Option.map_some, Option.map_none, Option.isSome_some, List.replicate_succ, List.replicate_zero, if_true, if_false, reduceIte, Nat.reduceAdd, Nat.reduceSub, Nat.reduceLeDiff, Nat.reduceEqDiff, Nat.reduceLT, Bool.false_eq_true, and_self, and_true, true_and, List.drop_succ_cons, List.drop_zero, List.take_succ_cons, List.take_zero, Nat.zero_add, Nat.add_zero, Bool.not_true, Bool.not_false, Nat.sub_self, Nat.le_refl, Int.reduceLT, Int.reduceNeg, Nat.reducePow, Int.reducePow, Int.reduceToNat, Int.reduceAdd, Int.reduceSub, Int.reduceLE, Int.cast_ofNat_Int, Int.reduceBEq, List.flatten_cons, List.flatten_nil, Nat.reduceMul, Nat.one_mul, Nat.mul_one, Nat.mul_zero, Nat.zero_le, Int.reduceMul, ey]
    by_cases hc : is.map D.int ≠ [] ∧ (2 : Int) ≤ (d : Int) ∧ (d : Int) ≤ 1000 ∧ (is.map D.int).length ≤ 1000
    · have e1 : (List.replicate ((d : Int)).toNat (is.map D.int)).flatten = ((List.replicate d is).flatten).map D.int := by
        rw [Int.toNat_natCast, List.map_flatten, List.map_replicate]
      have e2 : oMul (.tup (is.map D.int)) (.int (d : Int)) h3 = some (.v (.tup (((List.replicate d is).flatten).map D.int))) := by rw [mul_tup, if_pos hc, e1]
      simp only [mc_at, mvar_at, mnil_at, mcons_at, mop1_at, mop2_at, mtup_at, mlst_at, mfun_at, mand_at, mor_at, mnot_at, mandT_at, morT_at, mnotT_at, mtru_at, mbl_at, mite_at, mchain_at, mcall_at, mcallN_at, mmeth_at, msl_at, mpart0, mpart1, mdic0_at, iseq_at, irng_at, fin_none, fin_v, fin_newF, fin_newT, resM_some, resM_none, isLst_ref, lstOf_ref, lstOf_lst, seqOf_tup, seqOf_lst, seqOf_ref, seqOf_scr, truth_bl, forLoop_nil, gname_at, gtup_at, gtup_lst, go_nil, go_cons, gstar_at, gsub_at, startE_at, wipeE_nil, wipeE_cons, isi_at, len_at, all_lst, tuple_at, list_at, isN_eq, isN_ne, isN_in, isN_notIn, cmp_int, add_int, sub_int, mod_int, fdiv_int, mul_int, mul_lst, add_lst, add_refL, app_at, join_at, isStr_str, add_tup, add_str, int_bl, int_int, sl_tup, sl_lst, sl_str, pow_int, neg_int, ix_tup, ix_lst, ix_ref, ix_scr, sat_ok, sat_exc, sat_bad, sat_bind, satS_some, satS_none, satO_some, satO_none, toRet_nx, toRet_ret, toRet_exc, sat_run, toSeq_nx, toSeq_ret, toSeq_exc, toSeq_bk, toSeq_ct, satS_seq, satS_pass, satS_brk, satS_cnt, satS_expr, satS_ret, satS_retN, satS_asg, satS_if, satS_for, sat_comp, satS_par2, satS_par3, sat_ite, fin_ite, mdisp_at, mpairs_nil, mpairs_cons, mixd_at, mget2_at, mdict_at, mfz_at, mstar_at, mdzip_at, Res.bind_ok, Res.bind_bad, Res.bind_exc, List.getElem?_cons_zero, List.getElem?_cons_succ, List.getElem?_nil, List.map_cons, List.map_nil, List.cons_append, List.nil_append, List.append_nil, List.length_cons, List.length_nil, List.set_cons_zero, List.set_cons_succ, Option.map_some, Option.map_none, Option.isSome_some, List.replicate_succ, List.replicate_zero, if_true, if_false, reduceIte, Nat.reduceAdd, Nat.reduceSub, Nat.reduceLeDiff, Nat.reduceEqDiff, Nat.reduceLT, Bool.false_eq_true, and_self, and_true, true_and, List.drop_succ_cons, List.drop_zero, List.take_succ_cons, List.take_zero, Nat.zero_add, Nat.add_zero, Bool.not_true, Bool.not_false, Nat.sub_self, Nat.le_refl, Int.reduceLT, Int.reduceNeg, Nat.reducePow, Int.reducePow, Int.reduceToNat, Int.reduceAdd, Int.reduceSub, Int.reduceLE, Int.cast_ofNat_Int, Int.reduceBEq, List.flatten_cons, List.flatten_nil, Nat.reduceMul, Nat.one_mul, Nat.mul_one, Nat.mul_zero, Nat.zero_le, Int.reduceMul, e2]
      refine k _ _ ((s1.trans s2).trans s3) ?_ fun i hi' => ?_
      · rw [List.length_flatten, List.map_replicate, List.sum_replicate_nat]
        have := Nat.mul_le_mul hd l3
        omega
      · obtain ⟨l, hl, hm⟩ := List.mem_flatten.mp hi'
        rw [(List.mem_replicate.mp hl).2] at hm
        exact hi i hm
    · have hz : is.map D.int = [] ∨ (d : Int) = 1 := by
        by_cases hn : is.map D.int = []
        · exact .inl hn
        · right
          have : ¬ (2 : Int) ≤ (d : Int) := fun h2 => hc ⟨hn, h2, by omega, by rw [List.length_map]; omega⟩
          have : d ≠ 0 := hd0
          omega
      have e2 : oMul (.tup (is.map D.int)) (.int (d : Int)) h3 = some (.v (.tup (is.map D.int))) := by rw [mul_tup, if_neg hc, if_pos ⟨hz, by omega, by omega⟩]
      simp only [mc_at, mvar_at, mnil_at, mcons_at, mop1_at, mop2_at, mtup_at, mlst_at, mfun_at, mand_at, mor_at, mnot_at, mandT_at, morT_at, mnotT_at, mtru_at, mbl_at, mite_at, mchain_at, mcall_at, mcallN_at, mmeth_at, msl_at, mpart0, mpart1, mdic0_at, iseq_at, irng_at, fin_none, fin_v, fin_newF, fin_newT, resM_some, resM_none, isLst_ref, lstOf_ref, lstOf_lst, seqOf_tup, seqOf_lst, seqOf_ref, seqOf_scr, truth_bl, forLoop_nil, gname_at, gtup_at, gtup_lst, go_nil, go_cons, gstar_at, gsub_at, startE_at, wipeE_nil, wipeE_cons, isi_at, len_at, all_lst, tuple_at, list_at, isN_eq, isN_ne, isN_in, isN_notIn, cmp_int, add_int, sub_int, mod_int, fdiv_int, mul_int, mul_lst, add_lst, add_refL, app_at, join_at, isStr_str, add_tup, add_str, int_bl, int_int, sl_tup, sl_lst, sl_str, pow_int, neg_int, ix_tup, ix_lst, ix_ref, ix_scr, sat_ok, sat_exc, sat_bad, sat_bind, satS_some, satS_none, satO_some, satO_none, toRet_nx, toRet_ret, toRet_exc, sat_run, toSeq_nx, toSeq_ret, toSeq_exc, toSeq_bk, toSeq_ct, satS_seq, satS_pass, satS_brk, satS_cnt, satS_expr, satS_ret, satS_retN, satS_asg, satS_if, satS_for, sat_comp, satS_par2, satS_par3, sat_ite, fin_ite, mdisp_at, mpairs_nil, mpairs_cons, mixd_at, mget2_at, mdict_at, mfz_at, mstar_at, mdzip_at, Res.bind_ok, Res.bind_bad, Res.bind_exc, List.getElem?_cons_zero, List.getElem?_cons_succ, List.getElem?_nil, List.map_cons, List.map_nil, List.cons_append, List.nil_append, List.append_nil, List.length_cons, List.length_nil, List.set_cons_zero, List.set_cons_succ, Option.map_some, Option.map_none, Option.isSome_some, List.replicate_succ, List.replicate_zero, if_true, if_false, reduceIte, Nat.reduceAdd, Nat.reduceSub, Nat.reduceLeDiff, Nat.reduceEqDiff, Nat.reduceLT, Bool.false_eq_true, and_self, and_true, true_and, List.drop_succ_cons, List.drop_zero, List.take_succ_cons, List.take_zero, Nat.zero_add, Nat.add_zero, Bool.not_true, Bool.not_false, Nat.sub_self, Nat.le_refl, Int.reduceLT, Int.reduceNeg, Nat.reducePow, Int.reducePow, Int.reduceToNat, Int.reduceAdd, Int.reduceSub, Int.reduceLE, Int.cast_ofNat_Int, Int.reduceBEq, List.flatten_cons, List.flatten_nil, Nat.reduceMul, Nat.one_mul, Nat.mul_one, Nat.mul_zero, Nat.zero_le, Int.reduceMul, e2]
      exact k _ _ ((s1.trans s2).trans s3) (by omega) hi
end
end EV


/-! K24d: filled bodies, expansions. -/
namespace EV
open PySem PySem.Spec PyProof.Rows L2 RP
/-- a dict of words: what it gives for each word -/
structure Wds (W : D) (f : Str → Str) : Prop where
  ex : ∃ ks xs, W = .dic ks xs ∧ ∀ w, (valD ks xs (.inr w)).getD (.str w) = .str (f w)
theorem words_comp {i j : Nat} {W : D} {f : Str → Str} (hW : Wds W f) {env : Env} {ws : List Str} {h : Hd} (hj : env[j]? = some (some W)) (hij : i ≠ j) (hi : i < env.length) :
    compLoop (gname i) yes (mget2 (mvar j) (mvar i) (mvar i)) env (ws.map .str) [] h = some ((ws.map f).map .str, h) := by
  obtain ⟨ks, xs, rfl, hf⟩ := hW.ex
  have := comp_mapm (i := i) (elt := mget2 (mvar j) (mvar i) (mvar i)) (env := env) (h := h) (g := D.str) (f := fun w => D.str (f w)) (l := ws) (acc := []) fun w _ => by
    have e1 : (env.set i (some (.str w)))[i]? = some (some (.str w)) := List.getElem?_set_self hi
    have e2 : (env.set i (some (.str w)))[j]? = some (some (.dic ks xs)) := by rw [List.getElem?_set_ne hij]; exact hj
    simp only [mget2_at, mvar_at, e1, e2, Res.bind_ok, dicOf, keyOf, hf]
  rw [this]
  simp
theorem F_path {W : D} {f : Str → Str} (hW : Wds W f) {s : Str} {ws : List Str} (hl : ws.length ≤ 100) (h : Hd) : F_filled_path [pathD s ws, W] h = .ok (pathD s (ws.map f)) h := by
  have h1 : ws.length + 1 ≤ sizeLine := len_le (by omega)
  have hc := words_comp hW (i := 4) (j := 1) (env := [some (.tup (.str s :: ws.map .str)), some W, some (.str s), some (.lst (ws.map .str)), none]) (ws := ws) (h := h) rfl (by decide) (by simp)
  simp only [F_filled_path, m_filled_path, mc_at, mvar_at, mnil_at, mcons_at, mop1_at, mop2_at, mtup_at, mlst_at, mfun_at, mand_at, mor_at, mnot_at, mandT_at, morT_at, mnotT_at, mtru_at, mbl_at, mite_at, mchain_at, mcall_at, mcallN_at, mmeth_at, msl_at, mpart0, mpart1, mdic0_at, iseq_at, irng_at, mcomp_at, fin_none, fin_v, fin_newF, fin_newT, resM_some, resM_none, isLst_ref, lstOf_ref, lstOf_lst, seqOf_tup, seqOf_lst, seqOf_ref, seqOf_scr, truth_bl, ofE_at, ofT_at, sPass_at, sExpr_at, sRet_at, sRetN_at, sAsg_at, sIf_at, sSeq_at, sFor_at, forLoop_nil, forLoop_cons, gname_at, gtup_at, gtup_lst, go_nil, go_cons, gstar_at, gsub_at, runB_at, startE_at, wipeE_nil, wipeE_cons, isi_at, len_at, all_lst, tuple_at, list_at, isN_eq, isN_ne, isN_in, isN_notIn, cmp_int, add_int, sub_int, mod_int, fdiv_int, mul_int, mul_lst, add_lst, add_refL, app_at, join_at, isStr_str, add_tup, add_str, int_bl, int_int, sl_tup, sl_lst, sl_str, pow_int, neg_int, ix_tup, ix_lst, ix_ref, ix_scr, Res.bind_ok, Res.bind_bad, Res.bind_exc, List.getElem?_cons_zero, List.getElem?_cons_succ, List.getElem?_nil, List.map_cons, List.map_nil, List.cons_append, List.nil_append, List.append_nil, List.length_cons, List.length_nil, List.set_cons_zero, List.set_cons_succ, Option.map_some, Option.map_none, Option.isSome_some, List.replicate_succ, List.replicate_zero, if_true, if_false, reduceIte, Nat.reduceAdd, Nat.reduceSub, Nat.reduceLeDiff, Nat.reduceEqDiff, Nat.reduceLT, Bool.false_eq_true, and_self, and_true, true_and, List.drop_succ_cons, List.drop_zero, List.take_succ_cons, List.take_zero, Nat.zero_add, Nat.add_zero, Bool.not_true, Bool.not_false, Nat.sub_self, Nat.le_refl, Int.reduceLT, Int.reduceNeg, Nat.reducePow, Int.reducePow, Int.reduceToNat, Int.reduceAdd, Int.reduceSub, Int.reduceLE, Int.cast_ofNat_Int, Int.reduceBEq, List.flatten_cons, List.flatten_nil, Nat.reduceMul, Nat.one_mul, Nat.mul_one, Nat.mul_zero, Nat.zero_le, Int.reduceMul, pathD, itemsOf, mstar_at, hc, List.length_map, h1]
theorem F_expr {W : D} {f : Str → Str} (hW : Wds W f) : ∀ {n : Nat} {t : Tm}, t.Ok n → ∀ (h : Hd), FF_filled_expression n 0 [t.d, W] h = .ok (t.fill f).d h
  | n + 1, .num i, _, h => by
    simp only [FF_filled_expression, m_filled_expression, mc_at, mvar_at, mnil_at, mcons_at, mop1_at, mop2_at, mtup_at, mlst_at, mfun_at, mand_at, mor_at, mnot_at, mandT_at, morT_at, mnotT_at, mtru_at, mbl_at, mite_at, mchain_at, mcall_at, mcallN_at, mmeth_at, msl_at, mpart0, mpart1, mdic0_at, iseq_at, irng_at, mcomp_at, fin_none, fin_v, fin_newF, fin_newT, resM_some, resM_none, isLst_ref, lstOf_ref, lstOf_lst, seqOf_tup, seqOf_lst, seqOf_ref, seqOf_scr, truth_bl, ofE_at, ofT_at, sPass_at, sExpr_at, sRet_at, sRetN_at, sAsg_at, sIf_at, sSeq_at, sFor_at, forLoop_nil, forLoop_cons, gname_at, gtup_at, gtup_lst, go_nil, go_cons, gstar_at, gsub_at, runB_at, startE_at, wipeE_nil, wipeE_cons, isi_at, len_at, all_lst, tuple_at, list_at, isN_eq, isN_ne, isN_in, isN_notIn, cmp_int, add_int, sub_int, mod_int, fdiv_int, mul_int, mul_lst, add_lst, add_refL, app_at, join_at, isStr_str, add_tup, add_str, int_bl, int_int, sl_tup, sl_lst, sl_str, pow_int, neg_int, ix_tup, ix_lst, ix_ref, ix_scr, Res.bind_ok, Res.bind_bad, Res.bind_exc, List.getElem?_cons_zero, List.getElem?_cons_succ, List.getElem?_nil, List.map_cons, List.map_nil, List.cons_append, List.nil_append, List.append_nil, List.length_cons, List.length_nil, List.set_cons_zero, List.set_cons_succ, Option.map_some, Option.map_none, Option.isSome_some, List.replicate_succ, List.replicate_zero, if_true, if_false, reduceIte, Nat.reduceAdd, Nat.reduceSub, Nat.reduceLeDiff, Nat.reduceEqDiff, Nat.reduceLT, Bool.false_eq_true, and_self, and_true, true_and, List.drop_succ_cons, List.drop_zero, List.take_succ_cons, List.take_zero, Nat.zero_add, Nat.add_zero, Bool.not_true, Bool.not_false, Nat.sub_self, Nat.le_refl, Int.reduceLT, Int.reduceNeg, Nat.reducePow, Int.reducePow, Int.reduceToNat, Int.reduceAdd, Int.reduceSub, Int.reduceLE, Int.cast_ofNat_Int, Int.reduceBEq, List.flatten_cons, List.flatten_nil, Nat.reduceMul, Nat.one_mul, Nat.mul_one, Nat.mul_zero, Nat.zero_le, Int.reduceMul, Tm.d, Tm.fill, eqv, beq_self_eq_true]
  | n + 1, .ref s ws, hk, h => by
    simp only [Tm.Ok] at hk
    have e : (("ref" : Str) == ("num" : Str)) = false := by decide +kernel
    have z2 : 2 ≤ sizeLine := len_le (by decide)
    simp only [FF_filled_expression, m_filled_expression, mc_at, mvar_at, mnil_at, mcons_at, mop1_at, mop2_at, mtup_at, mlst_at, mfun_at, mand_at, mor_at, mnot_at, mandT_at, morT_at, mnotT_at, mtru_at, mbl_at, mite_at, mchain_at, mcall_at, mcallN_at, mmeth_at, msl_at, mpart0, mpart1, mdic0_at, iseq_at, irng_at, mcomp_at, fin_none, fin_v, fin_newF, fin_newT, resM_some, resM_none, isLst_ref, lstOf_ref, lstOf_lst, seqOf_tup, seqOf_lst, seqOf_ref, seqOf_scr, truth_bl, ofE_at, ofT_at, sPass_at, sExpr_at, sRet_at, sRetN_at, sAsg_at, sIf_at, sSeq_at, sFor_at, forLoop_nil, forLoop_cons, gname_at, gtup_at, gtup_lst, go_nil, go_cons, gstar_at, gsub_at, runB_at, startE_at, wipeE_nil, wipeE_cons, isi_at, len_at, all_lst, tuple_at, list_at, isN_eq, isN_ne, isN_in, isN_notIn, cmp_int, add_int, sub_int, mod_int, fdiv_int, mul_int, mul_lst, add_lst, add_refL, app_at, join_at, isStr_str, add_tup, add_str, int_bl, int_int, sl_tup, sl_lst, sl_str, pow_int, neg_int, ix_tup, ix_lst, ix_ref, ix_scr, Res.bind_ok, Res.bind_bad, Res.bind_exc, List.getElem?_cons_zero, List.getElem?_cons_succ, List.getElem?_nil, List.map_cons, List.map_nil, List.cons_append, List.nil_append, List.append_nil, List.length_cons, List.length_nil, List.set_cons_zero, List.set_cons_succ, Option.map_some, Option.map_none, Option.isSome_some, List.replicate_succ, List.replicate_zero, if_true, if_false, reduceIte, Nat.reduceAdd, Nat.reduceSub, Nat.reduceLeDiff, Nat.reduceEqDiff, Nat.reduceLT, Bool.false_eq_true, and_self, and_true, true_and, List.drop_succ_cons, List.drop_zero, List.take_succ_cons, List.take_zero, Nat.zero_add, Nat.add_zero, Bool.not_true, Bool.not_false, Nat.sub_self, Nat.le_refl, Int.reduceLT, Int.reduceNeg, Nat.reducePow, Int.reducePow, Int.reduceToNat, Int.reduceAdd, Int.reduceSub, Int.reduceLE, Int.cast_ofNat_Int, Int.reduceBEq, List.flatten_cons, List.flatten_nil, Nat.reduceMul, Nat.one_mul, Nat.mul_one, Nat.mul_zero, Nat.zero_le, Int.reduceMul, Tm.d, Tm.fill, eqv, beq_self_eq_true, e, at0, F_path hW (show ws.length ≤ 100 by omega), z2]
  | n + 1, .op k ts, hk, h => by
    simp only [Tm.Ok] at hk
    have e1 : (opS k == ("num" : Str)) = false := by match k with | 0 => decide +kernel | 1 => decide +kernel | k + 2 => exact (show (("if" : Str) == ("num" : Str)) = false by decide +kernel)
    have e2 : (opS k == ("ref" : Str)) = false := by match k with | 0 => decide +kernel | 1 => decide +kernel | k + 2 => exact (show (("if" : Str) == ("ref" : Str)) = false by decide +kernel)
    have h1 : ts.length + 1 ≤ sizeLine := len_le (by omega)
    have hc := comp_mapm (i := 4) (elt := mcall (FF_filled_expression n 0) 2 [] (mcons (mvar 4) (mcons (mvar 1) mnil))) (env := [some (.tup (.str (opS k) :: ts.map Tm.d)), some W, some (.str (opS k)), some (.lst (ts.map Tm.d)), none]) (h := h) (g := Tm.d) (f := fun t => (t.fill f).d) (l := ts) (acc := [])
      fun t ht => by simp only [mc_at, mvar_at, mnil_at, mcons_at, mop1_at, mop2_at, mtup_at, mlst_at, mfun_at, mand_at, mor_at, mnot_at, mandT_at, morT_at, mnotT_at, mtru_at, mbl_at, mite_at, mchain_at, mcall_at, mcallN_at, mmeth_at, msl_at, mpart0, mpart1, mdic0_at, iseq_at, irng_at, mcomp_at, fin_none, fin_v, fin_newF, fin_newT, resM_some, resM_none, isLst_ref, lstOf_ref, lstOf_lst, seqOf_tup, seqOf_lst, seqOf_ref, seqOf_scr, truth_bl, ofE_at, ofT_at, sPass_at, sExpr_at, sRet_at, sRetN_at, sAsg_at, sIf_at, sSeq_at, sFor_at, forLoop_nil, forLoop_cons, gname_at, gtup_at, gtup_lst, go_nil, go_cons, gstar_at, gsub_at, runB_at, startE_at, wipeE_nil, wipeE_cons, isi_at, len_at, all_lst, tuple_at, list_at, isN_eq, isN_ne, isN_in, isN_notIn, cmp_int, add_int, sub_int, mod_int, fdiv_int, mul_int, mul_lst, add_lst, add_refL, app_at, join_at, isStr_str, add_tup, add_str, int_bl, int_int, sl_tup, sl_lst, sl_str, pow_int, neg_int, ix_tup, ix_lst, ix_ref, ix_scr, Res.bind_ok, Res.bind_bad, Res.bind_exc, List.getElem?_cons_zero, List.getElem?_cons_succ, List.getElem?_nil, List.map_cons, List.map_nil, List.cons_append, List.nil_append, List.append_nil, List.length_cons, List.length_nil, List.set_cons_zero, List.set_cons_succ, Option.map_some, Option.map_none, Option.isSome_some, List.replicate_succ, List.replicate_zero, if_true, if_false, reduceIte, Nat.reduceAdd, Nat.reduceSub, Nat.reduceLeDiff, Nat.reduceEqDiff, Nat.reduceLT, Bool.false_eq_true, and_self, and_true, true_and, List.drop_succ_cons, List.drop_zero, List.take_succ_cons, List.take_zero, Nat.zero_add, Nat.add_zero, Bool.not_true, Bool.not_false, Nat.sub_self, Nat.le_refl, Int.reduceLT, Int.reduceNeg, Nat.reducePow, Int.reducePow, Int.reduceToNat, Int.reduceAdd, Int.reduceSub, Int.reduceLE, Int.cast_ofNat_Int, Int.reduceBEq, List.flatten_cons, List.flatten_nil, Nat.reduceMul, Nat.one_mul, Nat.mul_one, Nat.mul_zero, Nat.zero_le, Int.reduceMul, F_expr hW (hk.2 t ht) h]
    simp only [List.nil_append] at hc
    simp only [FF_filled_expression, m_filled_expression, mc_at, mvar_at, mnil_at, mcons_at, mop1_at, mop2_at, mtup_at, mlst_at, mfun_at, mand_at, mor_at, mnot_at, mandT_at, morT_at, mnotT_at, mtru_at, mbl_at, mite_at, mchain_at, mcall_at, mcallN_at, mmeth_at, msl_at, mpart0, mpart1, mdic0_at, iseq_at, irng_at, mcomp_at, fin_none, fin_v, fin_newF, fin_newT, resM_some, resM_none, isLst_ref, lstOf_ref, lstOf_lst, seqOf_tup, seqOf_lst, seqOf_ref, seqOf_scr, truth_bl, ofE_at, ofT_at, sPass_at, sExpr_at, sRet_at, sRetN_at, sAsg_at, sIf_at, sSeq_at, sFor_at, forLoop_nil, forLoop_cons, gname_at, gtup_at, gtup_lst, go_nil, go_cons, gstar_at, gsub_at, runB_at, startE_at, wipeE_nil, wipeE_cons, isi_at, len_at, all_lst, tuple_at, list_at, isN_eq, isN_ne, isN_in, isN_notIn, cmp_int, add_int, sub_int, mod_int, fdiv_int, mul_int, mul_lst, add_lst, add_refL, app_at, join_at, isStr_str, add_tup, add_str, int_bl, int_int, sl_tup, sl_lst, sl_str, pow_int, neg_int, ix_tup, ix_lst, ix_ref, ix_scr, Res.bind_ok, Res.bind_bad, Res.bind_exc, List.getElem?_cons_zero, List.getElem?_cons_succ, List.getElem?_nil, List.map_cons, List.map_nil, List.cons_append, List.nil_append, List.append_nil, List.length_cons, List.length_nil, List.set_cons_zero, List.set_cons_succ, Option.map_some, Option.map_none, Option.isSome_some, List.replicate_succ, List.replicate_zero, if_true, if_false, reduceIte, Nat.reduceAdd, Nat.reduceSub, Nat.reduceLeDiff, Nat.reduceEqDiff, Nat.reduceLT, Bool.false_eq_true, and_self, and_true, true_and, List.drop_succ_cons, List.drop_zero, List.take_succ_cons, List.take_zero, Nat.zero_add, Nat.add_zero, Bool.not_true, Bool.not_false, Nat.sub_self, Nat.le_refl, Int.reduceLT, Int.reduceNeg, Nat.reducePow, Int.reducePow, Int.reduceToNat, Int.reduceAdd, Int.reduceSub, Int.reduceLE, Int.cast_ofNat_Int, Int.reduceBEq, List.flatten_cons, List.flatten_nil, Nat.reduceMul, Nat.one_mul, Nat.mul_one, Nat.mul_zero, Nat.zero_le, Int.reduceMul, Tm.d, Tm.fill, Tm.ds_map, Tm.fills_map, eqv, e1, e2, itemsOf, mstar_at, hc, List.length_map, List.map_map, h1]
    rfl
theorem get_word {W : D} {f : Str → Str} (hW : Wds W f) (w : Str) {o e : M D} {env : Env} {h : Hd} (ho : o env h = .ok W h) (he : e env h = .ok (.str w) h) : mget2 o e e env h = .ok (.str (f w)) h := by
  obtain ⟨ks, xs, rfl, hf⟩ := hW.ex
  simp only [mget2_at, ho, he, Res.bind_ok, dicOf, keyOf, hf]
theorem works_at (env : Env) (h : Hd) : mdisp false [((mc (.str "fn")), (mc (.fn 0))), ((mc (.str "use")), (mc (.fn 1))), ((mc (.str "mod")), (mc (.fn 2)))] env h = .ok (.dic [.inr "fn", .inr "use", .inr "mod"] [.fn 0, .fn 1, .fn 2]) h := rfl
theorem work_fn : valD [.inr "fn", .inr "use", .inr "mod"] [.fn 0, .fn 1, .fn 2] (.inr "fn") = some (.fn 0) := rfl
theorem work_use : valD [.inr "fn", .inr "use", .inr "mod"] [.fn 0, .fn 1, .fn 2] (.inr "use") = some (.fn 1) := rfl
theorem work_mod : valD [.inr "fn", .inr "use", .inr "mod"] [.fn 0, .fn 1, .fn 2] (.inr "mod") = some (.fn 2) := rfl
section
variable {A B G : FunT} {a b c x : Option D} {ms : M (List D)} {h : Hd}
theorem callL_0 : mcallL 3 [(2, 2, A), (0, 2, B), (1, 2, G)] ms [a, b, c, some (.fn 0)] h = (ms [a, b, c, some (.fn 0)] h).bind fun xs h1 => if xs.length = 2 then B xs h1 else .bad := rfl
theorem callL_1 : mcallL 3 [(2, 2, A), (0, 2, B), (1, 2, G)] ms [a, b, c, some (.fn 1)] h = (ms [a, b, c, some (.fn 1)] h).bind fun xs h1 => if xs.length = 2 then G xs h1 else .bad := rfl
theorem callL_2 : mcallL 3 [(2, 2, A), (0, 2, B), (1, 2, G)] ms [a, b, c, some (.fn 2)] h = (ms [a, b, c, some (.fn 2)] h).bind fun xs h1 => if xs.length = 2 then A xs h1 else .bad := rfl
end
theorem Tm.Ok.up : ∀ {n m : Nat} {t : Tm}, n ≤ m → t.Ok n → t.Ok m
  | n + 1, m + 1, .num i, _, h => h
  | n + 1, m + 1, .ref s ws, _, h => h
  | n + 1, m + 1, .op k ts, l, h => by
    simp only [Tm.Ok] at h ⊢
    exact ⟨h.1, fun t ht => (h.2 t ht).up (by omega)⟩
  | n + 1, 0, _, l, _ => absurd l (by omega)
theorem F_items {W : D} {f : Str → Str} {G : FunT} {its : List It} {h : Hd} (hG : ∀ t ∈ its, G [t.d, W] h = .ok (t.fill f).d h) (hl : its.length ≤ sizeLine) (A B : FunT) : runB 3 (m_filled_body G A B) [bodyD its, W] h = .ok (bodyD (its.map (It.fill f))) h := by
  have hc := comp_mapm (i := 2) (elt := mcall G 2 [] (mcons (mvar 2) (mcons (mvar 1) mnil))) (env := [some (bodyD its), some W, none]) (h := h) (g := It.d) (f := fun t => (t.fill f).d) (l := its) (acc := [])
      fun t ht => by simp only [mc_at, mvar_at, mnil_at, mcons_at, mop1_at, mop2_at, mtup_at, mlst_at, mfun_at, mand_at, mor_at, mnot_at, mandT_at, morT_at, mnotT_at, mtru_at, mbl_at, mite_at, mchain_at, mcall_at, mcallN_at, mmeth_at, msl_at, mpart0, mpart1, mdic0_at, iseq_at, irng_at, mcomp_at, fin_none, fin_v, fin_newF, fin_newT, resM_some, resM_none, isLst_ref, lstOf_ref, lstOf_lst, seqOf_tup, seqOf_lst, seqOf_ref, seqOf_scr, truth_bl, ofE_at, ofT_at, sPass_at, sExpr_at, sRet_at, sRetN_at, sAsg_at, sIf_at, sSeq_at, sFor_at, forLoop_nil, forLoop_cons, gname_at, gtup_at, gtup_lst, go_nil, go_cons, gstar_at, gsub_at, runB_at, startE_at, wipeE_nil, wipeE_cons, isi_at, len_at, all_lst, tuple_at, list_at, isN_eq, isN_ne, isN_in, isN_notIn, cmp_int, add_int, sub_int, mod_int, fdiv_int, mul_int, mul_lst, add_lst, add_refL, app_at, join_at, isStr_str, add_tup, add_str, int_bl, int_int, sl_tup, sl_lst, sl_str, pow_int, neg_int, ix_tup, ix_lst, ix_ref, ix_scr, Res.bind_ok, Res.bind_bad, Res.bind_exc, List.getElem?_cons_zero, List.getElem?_cons_succ, List.getElem?_nil, List.map_cons, List.map_nil, List.cons_append, List.nil_append, List.append_nil, List.length_cons, List.length_nil, List.set_cons_zero, List.set_cons_succ, Option.map_some, Option.map_none, Option.isSome_some, List.replicate_succ, List.replicate_zero, if_true, if_false, reduceIte, Nat.reduceAdd, Nat.reduceSub, Nat.reduceLeDiff, Nat.reduceEqDiff, Nat.reduceLT, Bool.false_eq_true, and_self, and_true, true_and, List.drop_succ_cons, List.drop_zero, List.take_succ_cons, List.take_zero, Nat.zero_add, Nat.add_zero, Bool.not_true, Bool.not_false, Nat.sub_self, Nat.le_refl, Int.reduceLT, Int.reduceNeg, Nat.reducePow, Int.reducePow, Int.reduceToNat, Int.reduceAdd, Int.reduceSub, Int.reduceLE, Int.cast_ofNat_Int, Int.reduceBEq, List.flatten_cons, List.flatten_nil, Nat.reduceMul, Nat.one_mul, Nat.mul_one, Nat.mul_zero, Nat.zero_le, Int.reduceMul, hG t ht]
  simp only [List.nil_append] at hc
  simp only [m_filled_body, mc_at, mvar_at, mnil_at, mcons_at, mop1_at, mop2_at, mtup_at, mlst_at, mfun_at, mand_at, mor_at, mnot_at, mandT_at, morT_at, mnotT_at, mtru_at, mbl_at, mite_at, mchain_at, mcall_at, mcallN_at, mmeth_at, msl_at, mpart0, mpart1, mdic0_at, iseq_at, irng_at, mcomp_at, fin_none, fin_v, fin_newF, fin_newT, resM_some, resM_none, isLst_ref, lstOf_ref, lstOf_lst, seqOf_tup, seqOf_lst, seqOf_ref, seqOf_scr, truth_bl, ofE_at, ofT_at, sPass_at, sExpr_at, sRet_at, sRetN_at, sAsg_at, sIf_at, sSeq_at, sFor_at, forLoop_nil, forLoop_cons, gname_at, gtup_at, gtup_lst, go_nil, go_cons, gstar_at, gsub_at, runB_at, startE_at, wipeE_nil, wipeE_cons, isi_at, len_at, all_lst, tuple_at, list_at, isN_eq, isN_ne, isN_in, isN_notIn, cmp_int, add_int, sub_int, mod_int, fdiv_int, mul_int, mul_lst, add_lst, add_refL, app_at, join_at, isStr_str, add_tup, add_str, int_bl, int_int, sl_tup, sl_lst, sl_str, pow_int, neg_int, ix_tup, ix_lst, ix_ref, ix_scr, Res.bind_ok, Res.bind_bad, Res.bind_exc, List.getElem?_cons_zero, List.getElem?_cons_succ, List.getElem?_nil, List.map_cons, List.map_nil, List.cons_append, List.nil_append, List.append_nil, List.length_cons, List.length_nil, List.set_cons_zero, List.set_cons_succ, Option.map_some, Option.map_none, Option.isSome_some, List.replicate_succ, List.replicate_zero, if_true, if_false, reduceIte, Nat.reduceAdd, Nat.reduceSub, Nat.reduceLeDiff, Nat.reduceEqDiff, Nat.reduceLT, Bool.false_eq_true, and_self, and_true, true_and, List.drop_succ_cons, List.drop_zero, List.take_succ_cons, List.take_zero, Nat.zero_add, Nat.add_zero, Bool.not_true, Bool.not_false, Nat.sub_self, Nat.le_refl, Int.reduceLT, Int.reduceNeg, Nat.reducePow, Int.reducePow, Int.reduceToNat, Int.reduceAdd, Int.reduceSub, Int.reduceLE, Int.cast_ofNat_Int, Int.reduceBEq, List.flatten_cons, List.flatten_nil, Nat.reduceMul, Nat.one_mul, Nat.mul_one, Nat.mul_zero, Nat.zero_le, Int.reduceMul, itemsOf, hc, List.length_map, List.map_map, hl, bodyD, Function.comp_def]
theorem F_item {W : D} {f : Str → Str} (hW : Wds W f) {m : Nat} (hm : m ≤ 100) : ∀ {n : Nat} {t : It}, t.Ok m n → ∀ {k : Nat}, 3 * n + 2 ≤ k → ∀ (h : Hd), FF_filled_item k 0 [t.d, W] h = .ok (t.fill f).d h := by
  have z1 : 1 ≤ sizeLine := len_le (by decide)
  have z2 : 2 ≤ sizeLine := len_le (by decide)
  have z3 : 3 ≤ sizeLine := len_le (by decide)
  have z4 : 4 ≤ sizeLine := len_le (by decide)
  have z5 : 5 ≤ sizeLine := len_le (by decide)
  have q1 : (("glob" : Str) == ("gap" : Str)) = false := by decide +kernel
  have q2 : (("call" : Str) == ("gap" : Str)) = false := by decide +kernel
  have q3 : (("call" : Str) == ("glob" : Str)) = false := by decide +kernel
  have q4 : ∀ {a : Str}, (a = "fn" ∨ a = "use" ∨ a = "mod" ∨ a = "macro") → (a == ("gap" : Str)) = false ∧ (a == ("glob" : Str)) = false ∧ (a == ("call" : Str)) = false := by
    intro a ha
    rcases ha with rfl | rfl | rfl | rfl <;> decide +kernel
  have q5 : (("fn" : Str) == ("macro" : Str)) = false := by decide +kernel
  have q6 : (("use" : Str) == ("macro" : Str)) = false := by decide +kernel
  have q7 : (("mod" : Str) == ("macro" : Str)) = false := by decide +kernel
  have qf := q4 (.inl rfl)
  have qu := q4 (.inr (.inl rfl))
  have qm := q4 (.inr (.inr (.inl rfl)))
  have qc := q4 (.inr (.inr (.inr rfl)))
  obtain ⟨ks, xs, rfl, hf⟩ := id hW.ex
  have P : ∀ {n : Nat} {t : It}, t.Ok m n → (match t with | .mod .. => False | .mac .. => False | _ => True) → ∀ {k : Nat}, 2 ≤ k → ∀ h, FF_filled_item k 0 [t.d, .dic ks xs] h = .ok (t.fill f).d h := by
    intro n t hk hp k hkn h
    obtain ⟨k, rfl⟩ : ∃ j, k = j + 2 := ⟨k - 2, by omega⟩
    cases t with
    | gap => simp only [FF_filled_item, m_filled_item, mc_at, mvar_at, mnil_at, mcons_at, mop1_at, mop2_at, mtup_at, mlst_at, mfun_at, mand_at, mor_at, mnot_at, mandT_at, morT_at, mnotT_at, mtru_at, mbl_at, mite_at, mchain_at, mcall_at, mcallN_at, mmeth_at, msl_at, mpart0, mpart1, mdic0_at, iseq_at, irng_at, mcomp_at, fin_none, fin_v, fin_newF, fin_newT, resM_some, resM_none, isLst_ref, lstOf_ref, lstOf_lst, seqOf_tup, seqOf_lst, seqOf_ref, seqOf_scr, truth_bl, ofE_at, ofT_at, sPass_at, sExpr_at, sRet_at, sRetN_at, sAsg_at, sIf_at, sSeq_at, sFor_at, forLoop_nil, forLoop_cons, gname_at, gtup_at, gtup_lst, go_nil, go_cons, gstar_at, gsub_at, runB_at, startE_at, wipeE_nil, wipeE_cons, isi_at, len_at, all_lst, tuple_at, list_at, isN_eq, isN_ne, isN_in, isN_notIn, cmp_int, add_int, sub_int, mod_int, fdiv_int, mul_int, mul_lst, add_lst, add_refL, app_at, join_at, isStr_str, add_tup, add_str, int_bl, int_int, sl_tup, sl_lst, sl_str, pow_int, neg_int, ix_tup, ix_lst, ix_ref, ix_scr, Res.bind_ok, Res.bind_bad, Res.bind_exc, List.getElem?_cons_zero, List.getElem?_cons_succ, List.getElem?_nil, List.map_cons, List.map_nil, List.cons_append, List.nil_append, List.append_nil, List.length_cons, List.length_nil, List.set_cons_zero, List.set_cons_succ, Option.map_some, Option.map_none, Option.isSome_some, List.replicate_succ, List.replicate_zero, if_true, if_false, reduceIte, Nat.reduceAdd, Nat.reduceSub, Nat.reduceLeDiff, Nat.reduceEqDiff, Nat.reduceLT, Bool.false_eq_true, and_self, and_true, true_and, List.drop_succ_cons, List.drop_zero, List.take_succ_cons, List.take_zero, Nat.zero_add, Nat.add_zero, Bool.not_true, Bool.not_false, Nat.sub_self, Nat.le_refl, Int.reduceLT, Int.reduceNeg, Nat.reducePow, Int.reducePow, Int.reduceToNat, Int.reduceAdd, Int.reduceSub, Int.reduceLE, Int.cast_ofNat_Int, Int.reduceBEq, List.flatten_cons, List.flatten_nil, Nat.reduceMul, Nat.one_mul, Nat.mul_one, Nat.mul_zero, Nat.zero_le, Int.reduceMul, It.d, It.fill, eqv, beq_self_eq_true]
    | glob s ws b =>
      simp only [It.Ok] at hk
      simp only [FF_filled_item, m_filled_item, mc_at, mvar_at, mnil_at, mcons_at, mop1_at, mop2_at, mtup_at, mlst_at, mfun_at, mand_at, mor_at, mnot_at, mandT_at, morT_at, mnotT_at, mtru_at, mbl_at, mite_at, mchain_at, mcall_at, mcallN_at, mmeth_at, msl_at, mpart0, mpart1, mdic0_at, iseq_at, irng_at, mcomp_at, fin_none, fin_v, fin_newF, fin_newT, resM_some, resM_none, isLst_ref, lstOf_ref, lstOf_lst, seqOf_tup, seqOf_lst, seqOf_ref, seqOf_scr, truth_bl, ofE_at, ofT_at, sPass_at, sExpr_at, sRet_at, sRetN_at, sAsg_at, sIf_at, sSeq_at, sFor_at, forLoop_nil, forLoop_cons, gname_at, gtup_at, gtup_lst, go_nil, go_cons, gstar_at, gsub_at, runB_at, startE_at, wipeE_nil, wipeE_cons, isi_at, len_at, all_lst, tuple_at, list_at, isN_eq, isN_ne, isN_in, isN_notIn, cmp_int, add_int, sub_int, mod_int, fdiv_int, mul_int, mul_lst, add_lst, add_refL, app_at, join_at, isStr_str, add_tup, add_str, int_bl, int_int, sl_tup, sl_lst, sl_str, pow_int, neg_int, ix_tup, ix_lst, ix_ref, ix_scr, Res.bind_ok, Res.bind_bad, Res.bind_exc, List.getElem?_cons_zero, List.getElem?_cons_succ, List.getElem?_nil, List.map_cons, List.map_nil, List.cons_append, List.nil_append, List.append_nil, List.length_cons, List.length_nil, List.set_cons_zero, List.set_cons_succ, Option.map_some, Option.map_none, Option.isSome_some, List.replicate_succ, List.replicate_zero, if_true, if_false, reduceIte, Nat.reduceAdd, Nat.reduceSub, Nat.reduceLeDiff, Nat.reduceEqDiff, Nat.reduceLT, Bool.false_eq_true, and_self, and_true, true_and, List.drop_succ_cons, List.drop_zero, List.take_succ_cons, List.take_zero, Nat.zero_add, Nat.add_zero, Bool.not_true, Bool.not_false, Nat.sub_self, Nat.le_refl, Int.reduceLT, Int.reduceNeg, Nat.reducePow, Int.reducePow, Int.reduceToNat, Int.reduceAdd, Int.reduceSub, Int.reduceLE, Int.cast_ofNat_Int, Int.reduceBEq, List.flatten_cons, List.flatten_nil, Nat.reduceMul, Nat.one_mul, Nat.mul_one, Nat.mul_zero, Nat.zero_le, Int.reduceMul, It.d, It.fill, eqv, beq_self_eq_true, q1, at0, at1, F_path hW (show ws.length ≤ 100 by omega), z3]
    | call s ws as =>
      simp only [It.Ok] at hk
      have hc := words_comp hW (i := 4) (j := 1) (env := [some (.tup [.str "call", pathD s ws, .tup (as.map .str)]), some (.dic ks xs), some (.str "call"), some (.lst [pathD s ws, .tup (as.map .str)]), none]) (ws := as) (h := h) rfl (by decide) (by simp)
      simp only [FF_filled_item, m_filled_item, mc_at, mvar_at, mnil_at, mcons_at, mop1_at, mop2_at, mtup_at, mlst_at, mfun_at, mand_at, mor_at, mnot_at, mandT_at, morT_at, mnotT_at, mtru_at, mbl_at, mite_at, mchain_at, mcall_at, mcallN_at, mmeth_at, msl_at, mpart0, mpart1, mdic0_at, iseq_at, irng_at, mcomp_at, fin_none, fin_v, fin_newF, fin_newT, resM_some, resM_none, isLst_ref, lstOf_ref, lstOf_lst, seqOf_tup, seqOf_lst, seqOf_ref, seqOf_scr, truth_bl, ofE_at, ofT_at, sPass_at, sExpr_at, sRet_at, sRetN_at, sAsg_at, sIf_at, sSeq_at, sFor_at, forLoop_nil, forLoop_cons, gname_at, gtup_at, gtup_lst, go_nil, go_cons, gstar_at, gsub_at, runB_at, startE_at, wipeE_nil, wipeE_cons, isi_at, len_at, all_lst, tuple_at, list_at, isN_eq, isN_ne, isN_in, isN_notIn, cmp_int, add_int, sub_int, mod_int, fdiv_int, mul_int, mul_lst, add_lst, add_refL, app_at, join_at, isStr_str, add_tup, add_str, int_bl, int_int, sl_tup, sl_lst, sl_str, pow_int, neg_int, ix_tup, ix_lst, ix_ref, ix_scr, Res.bind_ok, Res.bind_bad, Res.bind_exc, List.getElem?_cons_zero, List.getElem?_cons_succ, List.getElem?_nil, List.map_cons, List.map_nil, List.cons_append, List.nil_append, List.append_nil, List.length_cons, List.length_nil, List.set_cons_zero, List.set_cons_succ, Option.map_some, Option.map_none, Option.isSome_some, List.replicate_succ, List.replicate_zero, if_true, if_false, reduceIte, Nat.reduceAdd, Nat.reduceSub, Nat.reduceLeDiff, Nat.reduceEqDiff, Nat.reduceLT, Bool.false_eq_true, and_self, and_true, true_and, List.drop_succ_cons, List.drop_zero, List.take_succ_cons, List.take_zero, Nat.zero_add, Nat.add_zero, Bool.not_true, Bool.not_false, Nat.sub_self, Nat.le_refl, Int.reduceLT, Int.reduceNeg, Nat.reducePow, Int.reducePow, Int.reduceToNat, Int.reduceAdd, Int.reduceSub, Int.reduceLE, Int.cast_ofNat_Int, Int.reduceBEq, List.flatten_cons, List.flatten_nil, Nat.reduceMul, Nat.one_mul, Nat.mul_one, Nat.mul_zero, Nat.zero_le, Int.reduceMul, It.d, It.fill, eqv, beq_self_eq_true, q2, q3, at0, at1, itemsOf, F_path hW (show ws.length ≤ 100 by omega), hc, z3]
    | fn w t b =>
      simp only [It.Ok] at hk
      have hF : ∀ h, F_filled_expression [t.d, .dic ks xs] h = .ok (t.fill f).d h := F_expr hW (n := 12) (hk.2.up (by decide))
      simp only [FF_filled_item, m_filled_item, m_filled_rest, mc_at, mvar_at, mnil_at, mcons_at, mop1_at, mop2_at, mtup_at, mlst_at, mfun_at, mand_at, mor_at, mnot_at, mandT_at, morT_at, mnotT_at, mtru_at, mbl_at, mite_at, mchain_at, mcall_at, mcallN_at, mmeth_at, msl_at, mpart0, mpart1, mdic0_at, iseq_at, irng_at, mcomp_at, fin_none, fin_v, fin_newF, fin_newT, resM_some, resM_none, isLst_ref, lstOf_ref, lstOf_lst, seqOf_tup, seqOf_lst, seqOf_ref, seqOf_scr, truth_bl, ofE_at, ofT_at, sPass_at, sExpr_at, sRet_at, sRetN_at, sAsg_at, sIf_at, sSeq_at, sFor_at, forLoop_nil, forLoop_cons, gname_at, gtup_at, gtup_lst, go_nil, go_cons, gstar_at, gsub_at, runB_at, startE_at, wipeE_nil, wipeE_cons, isi_at, len_at, all_lst, tuple_at, list_at, isN_eq, isN_ne, isN_in, isN_notIn, cmp_int, add_int, sub_int, mod_int, fdiv_int, mul_int, mul_lst, add_lst, add_refL, app_at, join_at, isStr_str, add_tup, add_str, int_bl, int_int, sl_tup, sl_lst, sl_str, pow_int, neg_int, ix_tup, ix_lst, ix_ref, ix_scr, Res.bind_ok, Res.bind_bad, Res.bind_exc, List.getElem?_cons_zero, List.getElem?_cons_succ, List.getElem?_nil, List.map_cons, List.map_nil, List.cons_append, List.nil_append, List.append_nil, List.length_cons, List.length_nil, List.set_cons_zero, List.set_cons_succ, Option.map_some, Option.map_none, Option.isSome_some, List.replicate_succ, List.replicate_zero, if_true, if_false, reduceIte, Nat.reduceAdd, Nat.reduceSub, Nat.reduceLeDiff, Nat.reduceEqDiff, Nat.reduceLT, Bool.false_eq_true, and_self, and_true, true_and, List.drop_succ_cons, List.drop_zero, List.take_succ_cons, List.take_zero, Nat.zero_add, Nat.add_zero, Bool.not_true, Bool.not_false, Nat.sub_self, Nat.le_refl, Int.reduceLT, Int.reduceNeg, Nat.reducePow, Int.reducePow, Int.reduceToNat, Int.reduceAdd, Int.reduceSub, Int.reduceLE, Int.cast_ofNat_Int, Int.reduceBEq, List.flatten_cons, List.flatten_nil, Nat.reduceMul, Nat.one_mul, Nat.mul_one, Nat.mul_zero, Nat.zero_le, Int.reduceMul, It.d, It.fill, eqv, qf, at0, at1, dicOf, keyOf, hf, cut1, q5, works_at, mixd_at, mget2_at, work_fn, callL_0, hF, z2, z4, mstar_at]
    | use w s ws b =>
      simp only [It.Ok] at hk
      simp only [FF_filled_item, m_filled_item, m_filled_rest, mc_at, mvar_at, mnil_at, mcons_at, mop1_at, mop2_at, mtup_at, mlst_at, mfun_at, mand_at, mor_at, mnot_at, mandT_at, morT_at, mnotT_at, mtru_at, mbl_at, mite_at, mchain_at, mcall_at, mcallN_at, mmeth_at, msl_at, mpart0, mpart1, mdic0_at, iseq_at, irng_at, mcomp_at, fin_none, fin_v, fin_newF, fin_newT, resM_some, resM_none, isLst_ref, lstOf_ref, lstOf_lst, seqOf_tup, seqOf_lst, seqOf_ref, seqOf_scr, truth_bl, ofE_at, ofT_at, sPass_at, sExpr_at, sRet_at, sRetN_at, sAsg_at, sIf_at, sSeq_at, sFor_at, forLoop_nil, forLoop_cons, gname_at, gtup_at, gtup_lst, go_nil, go_cons, gstar_at, gsub_at, runB_at, startE_at, wipeE_nil, wipeE_cons, isi_at, len_at, all_lst, tuple_at, list_at, isN_eq, isN_ne, isN_in, isN_notIn, cmp_int, add_int, sub_int, mod_int, fdiv_int, mul_int, mul_lst, add_lst, add_refL, app_at, join_at, isStr_str, add_tup, add_str, int_bl, int_int, sl_tup, sl_lst, sl_str, pow_int, neg_int, ix_tup, ix_lst, ix_ref, ix_scr, Res.bind_ok, Res.bind_bad, Res.bind_exc, List.getElem?_cons_zero, List.getElem?_cons_succ, List.getElem?_nil, List.map_cons, List.map_nil, List.cons_append, List.nil_append, List.append_nil, List.length_cons, List.length_nil, List.set_cons_zero, List.set_cons_succ, Option.map_some, Option.map_none, Option.isSome_some, List.replicate_succ, List.replicate_zero, if_true, if_false, reduceIte, Nat.reduceAdd, Nat.reduceSub, Nat.reduceLeDiff, Nat.reduceEqDiff, Nat.reduceLT, Bool.false_eq_true, and_self, and_true, true_and, List.drop_succ_cons, List.drop_zero, List.take_succ_cons, List.take_zero, Nat.zero_add, Nat.add_zero, Bool.not_true, Bool.not_false, Nat.sub_self, Nat.le_refl, Int.reduceLT, Int.reduceNeg, Nat.reducePow, Int.reducePow, Int.reduceToNat, Int.reduceAdd, Int.reduceSub, Int.reduceLE, Int.cast_ofNat_Int, Int.reduceBEq, List.flatten_cons, List.flatten_nil, Nat.reduceMul, Nat.one_mul, Nat.mul_one, Nat.mul_zero, Nat.zero_le, Int.reduceMul, It.d, It.fill, eqv, qu, at0, at1, dicOf, keyOf, hf, cut1, q6, works_at, mixd_at, mget2_at, work_use, callL_1, F_path hW (show ws.length ≤ 100 by omega), z2, z4, mstar_at]
    | mod w body b => exact hp.elim
    | mac w ps body b => exact hp.elim
  intro n
  induction n with
  | zero =>
    intro t hk k hkn h
    cases t with
    | mod w body b => simp [It.Ok] at hk
    | mac w ps body b => simp [It.Ok] at hk
    | _ => exact P hk trivial (by omega) h
  | succ n ih =>
    intro t hk k hkn h
    have hB : ∀ {its : List It}, its.length ≤ m → (∀ i ∈ its, It.Ok m n i) → ∀ {j : Nat}, 3 * n + 3 ≤ j → ∀ h, FF_filled_item j 2 [.tup (its.map It.d), .dic ks xs] h = .ok (bodyD (its.map (It.fill f))) h := fun hl hi j hj h => by
      obtain ⟨j, rfl⟩ : ∃ i, j = i + 1 := ⟨j - 1, by omega⟩
      exact F_items (fun t ht => ih (hi t ht) (by omega) h) (len_le (by omega)) _ _
    cases t with
    | mod w body b =>
      simp only [It.Ok] at hk
      obtain ⟨k, rfl⟩ : ∃ j, k = j + 2 := ⟨k - 2, by omega⟩
      simp only [FF_filled_item, m_filled_item, m_filled_rest, mc_at, mvar_at, mnil_at, mcons_at, mop1_at, mop2_at, mtup_at, mlst_at, mfun_at, mand_at, mor_at, mnot_at, mandT_at, morT_at, mnotT_at, mtru_at, mbl_at, mite_at, mchain_at, mcall_at, mcallN_at, mmeth_at, msl_at, mpart0, mpart1, mdic0_at, iseq_at, irng_at, mcomp_at, fin_none, fin_v, fin_newF, fin_newT, resM_some, resM_none, isLst_ref, lstOf_ref, lstOf_lst, seqOf_tup, seqOf_lst, seqOf_ref, seqOf_scr, truth_bl, ofE_at, ofT_at, sPass_at, sExpr_at, sRet_at, sRetN_at, sAsg_at, sIf_at, sSeq_at, sFor_at, forLoop_nil, forLoop_cons, gname_at, gtup_at, gtup_lst, go_nil, go_cons, gstar_at, gsub_at, runB_at, startE_at, wipeE_nil, wipeE_cons, isi_at, len_at, all_lst, tuple_at, list_at, isN_eq, isN_ne, isN_in, isN_notIn, cmp_int, add_int, sub_int, mod_int, fdiv_int, mul_int, mul_lst, add_lst, add_refL, app_at, join_at, isStr_str, add_tup, add_str, int_bl, int_int, sl_tup, sl_lst, sl_str, pow_int, neg_int, ix_tup, ix_lst, ix_ref, ix_scr, Res.bind_ok, Res.bind_bad, Res.bind_exc, List.getElem?_cons_zero, List.getElem?_cons_succ, List.getElem?_nil, List.map_cons, List.map_nil, List.cons_append, List.nil_append, List.append_nil, List.length_cons, List.length_nil, List.set_cons_zero, List.set_cons_succ, Option.map_some, Option.map_none, Option.isSome_some, List.replicate_succ, List.replicate_zero, if_true, if_false, reduceIte, Nat.reduceAdd, Nat.reduceSub, Nat.reduceLeDiff, Nat.reduceEqDiff, Nat.reduceLT, Bool.false_eq_true, and_self, and_true, true_and, List.drop_succ_cons, List.drop_zero, List.take_succ_cons, List.take_zero, Nat.zero_add, Nat.add_zero, Bool.not_true, Bool.not_false, Nat.sub_self, Nat.le_refl, Int.reduceLT, Int.reduceNeg, Nat.reducePow, Int.reducePow, Int.reduceToNat, Int.reduceAdd, Int.reduceSub, Int.reduceLE, Int.cast_ofNat_Int, Int.reduceBEq, List.flatten_cons, List.flatten_nil, Nat.reduceMul, Nat.one_mul, Nat.mul_one, Nat.mul_zero, Nat.zero_le, Int.reduceMul, It.d, It.fill, It.ds_map, It.fills_map, eqv, qm, at0, at1, dicOf, keyOf, hf, cut1, q7, works_at, mixd_at, mget2_at, work_mod, callL_2, hB hk.2.1 hk.2.2 (j := k) (by omega), z2, z4, mstar_at]
    | mac w ps body b =>
      simp only [It.Ok] at hk
      obtain ⟨k, rfl⟩ : ∃ j, k = j + 2 := ⟨k - 2, by omega⟩
      simp only [FF_filled_item, m_filled_item, m_filled_rest, mc_at, mvar_at, mnil_at, mcons_at, mop1_at, mop2_at, mtup_at, mlst_at, mfun_at, mand_at, mor_at, mnot_at, mandT_at, morT_at, mnotT_at, mtru_at, mbl_at, mite_at, mchain_at, mcall_at, mcallN_at, mmeth_at, msl_at, mpart0, mpart1, mdic0_at, iseq_at, irng_at, mcomp_at, fin_none, fin_v, fin_newF, fin_newT, resM_some, resM_none, isLst_ref, lstOf_ref, lstOf_lst, seqOf_tup, seqOf_lst, seqOf_ref, seqOf_scr, truth_bl, ofE_at, ofT_at, sPass_at, sExpr_at, sRet_at, sRetN_at, sAsg_at, sIf_at, sSeq_at, sFor_at, forLoop_nil, forLoop_cons, gname_at, gtup_at, gtup_lst, go_nil, go_cons, gstar_at, gsub_at, runB_at, startE_at, wipeE_nil, wipeE_cons, isi_at, len_at, all_lst, tuple_at, list_at, isN_eq, isN_ne, isN_in, isN_notIn, cmp_int, add_int, sub_int, mod_int, fdiv_int, mul_int, mul_lst, add_lst, add_refL, app_at, join_at, isStr_str, add_tup, add_str, int_bl, int_int, sl_tup, sl_lst, sl_str, pow_int, neg_int, ix_tup, ix_lst, ix_ref, ix_scr, Res.bind_ok, Res.bind_bad, Res.bind_exc, List.getElem?_cons_zero, List.getElem?_cons_succ, List.getElem?_nil, List.map_cons, List.map_nil, List.cons_append, List.nil_append, List.append_nil, List.length_cons, List.length_nil, List.set_cons_zero, List.set_cons_succ, Option.map_some, Option.map_none, Option.isSome_some, List.replicate_succ, List.replicate_zero, if_true, if_false, reduceIte, Nat.reduceAdd, Nat.reduceSub, Nat.reduceLeDiff, Nat.reduceEqDiff, Nat.reduceLT, Bool.false_eq_true, and_self, and_true, true_and, List.drop_succ_cons, List.drop_zero, List.take_succ_cons, List.take_zero, Nat.zero_add, Nat.add_zero, Bool.not_true, Bool.not_false, Nat.sub_self, Nat.le_refl, Int.reduceLT, Int.reduceNeg, Nat.reducePow, Int.reducePow, Int.reduceToNat, Int.reduceAdd, Int.reduceSub, Int.reduceLE, Int.cast_ofNat_Int, Int.reduceBEq, List.flatten_cons, List.flatten_nil, Nat.reduceMul, Nat.one_mul, Nat.mul_one, Nat.mul_zero, Nat.zero_le, Int.reduceMul, It.d, It.fill, It.ds_map, It.fills_map, eqv, qc, at0, at1, at2, dicOf, keyOf, hf, cut1, beq_self_eq_true, mget2_at, hB hk.2.2.1 hk.2.2.2 (j := k) (by omega), z3, z5, mstar_at]
    | _ => exact P hk trivial (by omega) h
theorem F_body {W : D} {f : Str → Str} (hW : Wds W f) {m n : Nat} (hm : m ≤ 100) (hn : n ≤ 3) {its : List It} (hl : its.length ≤ m) (hi : ∀ i ∈ its, It.Ok m n i) (h : Hd) : F_filled_body [bodyD its, W] h = .ok (bodyD (its.map (It.fill f))) h :=
  F_items (fun t ht => F_item hW hm (hi t ht) (k := 11) (by omega) h) (len_le (by omega)) _ _
def look : KVD → Key → Option D
  | [], _ => none
  | (k, x) :: r, q => if k = q then some x else look r q
theorem look_val : ∀ (kvs : KVD) (q : Key), valD (kvs.map (·.1)) (kvs.map (·.2)) q = look kvs q
  | [], _ => rfl
  | (k, x) :: r, q => by
    show (if k = q then some x else valD (r.map (·.1)) (r.map (·.2)) q) = if k = q then some x else look r q
    rw [look_val r q]
theorem look_upd (k : Key) (d : D) : ∀ (kvs : KVD) (q : Key), look (kvs.map fun kv => if kv.1 = k then (kv.1, d) else kv) q = if q = k then (look kvs q).map (fun _ => d) else look kvs q
  | [], q => by simp [look]
  | (j, x) :: r, q => by
    have ih := look_upd k d r q
    simp only [List.map_cons]
    by_cases hj : j = k
    · simp only [hj, if_true, look]
      by_cases hq : k = q
      · subst hq; simp
      · rw [if_neg hq, ih, if_neg (fun e => hq e.symm), if_neg (fun e => hq e.symm)]
        simp [hq]
    · rw [if_neg hj]
      simp only [look]
      rw [ih]
      by_cases hq : j = q
      · subst hq; simp [hj]
      · simp [hq]
theorem look_app (k : Key) (d : D) : ∀ (kvs : KVD) (q : Key), look (kvs ++ [(k, d)]) q = match look kvs q with | some x => some x | none => if k = q then some d else none
  | [], q => by simp [look]
  | (j, x) :: r, q => by
    simp only [List.cons_append, look]
    by_cases hq : j = q
    · simp [hq]
    · simp only [hq, if_false]; exact look_app k d r q
theorem look_any (k : Key) : ∀ kvs : KVD, (kvs.any fun kv => decide (kv.1 = k)) = (look kvs k).isSome
  | [] => rfl
  | (j, x) :: r => by
    simp only [List.any_cons, look, look_any k r]
    by_cases hq : j = k <;> simp [hq]
theorem put_same (kvs : KVD) (k : Key) (d : D) : look (putP kvs k d) k = some d := by
  unfold putP
  rw [look_any]
  cases e : look kvs k with
  | none => simp [look_app, e]
  | some x => simp [look_upd, e]
theorem put_other (kvs : KVD) {k q : Key} (d : D) (hq : k ≠ q) : look (putP kvs k d) q = look kvs q := by
  unfold putP
  split
  · rw [look_upd, if_neg fun e => hq e.symm]
  · rw [look_app]
    cases e : look kvs q with
    | none => simp [hq]
    | some x => rfl
theorem zip_words : ∀ {own as : List Str} {acc : KVD}, own.length = as.length → ∃ kvs, (zipP (own.map .str) (as.map .str)).map (mergeP acc) = some kvs ∧
    (∀ w x, look kvs (.inr w) = some x → look acc (.inr w) = some x ∨ ∃ a ∈ as, x = .str a) ∧ (∀ w ∈ own, look kvs (.inr w) ≠ none) ∧ ∀ q, look acc q ≠ none → look kvs q ≠ none
  | [], [], acc, _ => ⟨acc, rfl, fun w x e => .inl e, (fun _ z => nomatch z), fun _ z => z⟩
  | o :: own, a :: as, acc, hl => by
    obtain ⟨kvs, e, p1, p2, p3⟩ := zip_words (own := own) (as := as) (acc := putP acc (.inr o) (.str a)) (by simpa using hl)
    obtain ⟨more, em, rfl⟩ := Option.map_eq_some_iff.mp e
    refine ⟨mergeP (putP acc (.inr o) (.str a)) more, ?_, fun w x hx => ?_, fun w hw => ?_, fun q hq => ?_⟩
    · simp only [List.map_cons, zipP, keyOf, em, Option.map_some]
      rfl
    · rcases p1 w x hx with hx | ⟨c, hc, rfl⟩
      · by_cases ho : o = w
        · subst ho
          rw [put_same] at hx
          exact .inr ⟨a, List.mem_cons_self, (Option.some.inj hx).symm⟩
        · rw [put_other _ _ fun e => ho (Sum.inr.inj e)] at hx
          exact .inl hx
      · exact .inr ⟨c, List.mem_cons_of_mem _ hc, rfl⟩
    · rcases List.mem_cons.mp hw with rfl | hw
      · exact p3 _ (by rw [put_same]; exact fun e => nomatch e)
      · exact p2 w hw
    · apply p3
      by_cases ho : (Sum.inr o : Key) = q
      · subst ho; rw [put_same]; exact fun e => nomatch e
      · rw [put_other _ _ ho]; exact hq
/-- the words put for own, and how a word is filled -/
structure Wrds (own as : List Str) (kvs : KVD) (f : Str → Str) : Prop where
  zip : (zipP (own.map .str) (as.map .str)).map (mergeP []) = some kvs
  wds : Wds (.dic (kvs.map (·.1)) (kvs.map (·.2))) f
  or : ∀ w, f w ∈ as ∨ (f w = w ∧ w ∉ own)
theorem wrds_of {own as : List Str} (hl : own.length = as.length) : ∃ kvs f, Wrds own as kvs f := by
  obtain ⟨kvs, e, p1, p2, _⟩ := zip_words (acc := []) hl
  have key : ∀ w, ∃ z, (look kvs (.inr w)).getD (.str w) = .str z ∧ (z ∈ as ∨ (z = w ∧ w ∉ own)) := fun w => by
    cases el : look kvs (.inr w) with
    | none => exact ⟨w, rfl, .inr ⟨rfl, fun hw => p2 w hw el⟩⟩
    | some x => rcases p1 w x el with hx | ⟨a, ha, rfl⟩
                · cases hx
                · exact ⟨a, rfl, .inl ha⟩
  refine ⟨kvs, fun w => (key w).choose, e, ⟨_, _, rfl, fun w => ?_⟩, fun w => (key w).choose_spec.2⟩
  rw [look_val]
  exact (key w).choose_spec.1
theorem in_let {c : Nat} (h1 : 97 ≤ c) (h2 : c ≤ 122) (h : Hd) : isIn (.str ⟨#[c]⟩) (.str "abcdefghijklmnopqrstuvwxyz") h = some true := by
  have key : ∀ i : Fin 26, (Builtin.Str.occurrences LET ⟨#[97 + i.val]⟩ 0 LET.length 1).isEmpty = false := by decide +kernel
  have := key ⟨c - 97, by omega⟩
  simp only at this
  rw [show 97 + (c - 97) = c by omega] at this
  show some (!(Builtin.Str.occurrences LET ⟨#[c]⟩ 0 LET.length 1).isEmpty) = _
  rw [this]
  rfl
theorem name_low {z : Str} (hz : Low z) (h : Hd) : F_is_name [.str z] h = .ok (.bl true) h := by
  have h1 : (1 : Int) ≤ (z.length : Int) := by have := hz.1.1; omega
  have h2 : (z.length : Int) ≤ 8 := by have := hz.1.2; omega
  simp only [F_is_name, m_is_name, F_is_made_of, m_is_made_of, mc_at, mvar_at, mnil_at, mcons_at, mop1_at, mop2_at, mtup_at, mlst_at, mfun_at, mand_at, mor_at, mnot_at, mandT_at, morT_at, mnotT_at, mtru_at, mbl_at, mite_at, mchain_at, mcall_at, mcallN_at, mmeth_at, msl_at, mpart0, mpart1, mdic0_at, iseq_at, irng_at, mcomp_at, fin_none, fin_v, fin_newF, fin_newT, resM_some, resM_none, isLst_ref, lstOf_ref, lstOf_lst, seqOf_tup, seqOf_lst, seqOf_ref, seqOf_scr, truth_bl, ofE_at, ofT_at, sPass_at, sExpr_at, sRet_at, sRetN_at, sAsg_at, sIf_at, sSeq_at, sFor_at, forLoop_nil, forLoop_cons, gname_at, gtup_at, gtup_lst, go_nil, go_cons, gstar_at, gsub_at, runB_at, startE_at, wipeE_nil, wipeE_cons, isi_at, len_at, all_lst, tuple_at, list_at, isN_eq, isN_ne, isN_in, isN_notIn, cmp_int, add_int, sub_int, mod_int, fdiv_int, mul_int, mul_lst, add_lst, add_refL, app_at, join_at, isStr_str, add_tup, add_str, int_bl, int_int, sl_tup, sl_lst, sl_str, pow_int, neg_int, ix_tup, ix_lst, ix_ref, ix_scr, Res.bind_ok, Res.bind_bad, Res.bind_exc, List.getElem?_cons_zero, List.getElem?_cons_succ, List.getElem?_nil, List.map_cons, List.map_nil, List.cons_append, List.nil_append, List.append_nil, List.length_cons, List.length_nil, List.set_cons_zero, List.set_cons_succ, Option.map_some, Option.map_none, Option.isSome_some, List.replicate_succ, List.replicate_zero, if_true, if_false, reduceIte, Nat.reduceAdd, Nat.reduceSub, Nat.reduceLeDiff, Nat.reduceEqDiff, Nat.reduceLT, Bool.false_eq_true, and_self, and_true, true_and, List.drop_succ_cons, List.drop_zero, List.take_succ_cons, List.take_zero, Nat.zero_add, Nat.add_zero, Bool.not_true, Bool.not_false, Nat.sub_self, Nat.le_refl, Int.reduceLT, Int.reduceNeg, Nat.reducePow, Int.reducePow, Int.reduceToNat, Int.reduceAdd, Int.reduceSub, Int.reduceLE, Int.cast_ofNat_Int, Int.reduceBEq, List.flatten_cons, List.flatten_nil, Nat.reduceMul, Nat.one_mul, Nat.mul_one, Nat.mul_zero, Nat.zero_le, Int.reduceMul, d_LETTERS, d_MOST_LETTERS, tyOf, isSub, lenOf, itemsOf, h1, h2, decide_true]
  rw [comp_mapm (f := fun c => .bl true) fun c hc => by simp only [mc_at, mvar_at, mnil_at, mcons_at, mop1_at, mop2_at, mtup_at, mlst_at, mfun_at, mand_at, mor_at, mnot_at, mandT_at, morT_at, mnotT_at, mtru_at, mbl_at, mite_at, mchain_at, mcall_at, mcallN_at, mmeth_at, msl_at, mpart0, mpart1, mdic0_at, iseq_at, irng_at, mcomp_at, fin_none, fin_v, fin_newF, fin_newT, resM_some, resM_none, isLst_ref, lstOf_ref, lstOf_lst, seqOf_tup, seqOf_lst, seqOf_ref, seqOf_scr, truth_bl, ofE_at, ofT_at, sPass_at, sExpr_at, sRet_at, sRetN_at, sAsg_at, sIf_at, sSeq_at, sFor_at, forLoop_nil, forLoop_cons, gname_at, gtup_at, gtup_lst, go_nil, go_cons, gstar_at, gsub_at, runB_at, startE_at, wipeE_nil, wipeE_cons, isi_at, len_at, all_lst, tuple_at, list_at, isN_eq, isN_ne, isN_in, isN_notIn, cmp_int, add_int, sub_int, mod_int, fdiv_int, mul_int, mul_lst, add_lst, add_refL, app_at, join_at, isStr_str, add_tup, add_str, int_bl, int_int, sl_tup, sl_lst, sl_str, pow_int, neg_int, ix_tup, ix_lst, ix_ref, ix_scr, Res.bind_ok, Res.bind_bad, Res.bind_exc, List.getElem?_cons_zero, List.getElem?_cons_succ, List.getElem?_nil, List.map_cons, List.map_nil, List.cons_append, List.nil_append, List.append_nil, List.length_cons, List.length_nil, List.set_cons_zero, List.set_cons_succ, Option.map_some, Option.map_none, Option.isSome_some, List.replicate_succ, List.replicate_zero, if_true, if_false, reduceIte, Nat.reduceAdd, Nat.reduceSub, Nat.reduceLeDiff, Nat.reduceEqDiff, Nat.reduceLT, Bool.false_eq_true, and_self, and_true, true_and, List.drop_succ_cons, List.drop_zero, List.take_succ_cons, List.take_zero, Nat.zero_add, Nat.add_zero, Bool.not_true, Bool.not_false, Nat.sub_self, Nat.le_refl, Int.reduceLT, Int.reduceNeg, Nat.reducePow, Int.reducePow, Int.reduceToNat, Int.reduceAdd, Int.reduceSub, Int.reduceLE, Int.cast_ofNat_Int, Int.reduceBEq, List.flatten_cons, List.flatten_nil, Nat.reduceMul, Nat.one_mul, Nat.mul_one, Nat.mul_zero, Nat.zero_le, Int.reduceMul, in_let (hz.2 c hc).1 (hz.2 c hc).2]]
  simp only [mc_at, mvar_at, mnil_at, mcons_at, mop1_at, mop2_at, mtup_at, mlst_at, mfun_at, mand_at, mor_at, mnot_at, mandT_at, morT_at, mnotT_at, mtru_at, mbl_at, mite_at, mchain_at, mcall_at, mcallN_at, mmeth_at, msl_at, mpart0, mpart1, mdic0_at, iseq_at, irng_at, mcomp_at, fin_none, fin_v, fin_newF, fin_newT, resM_some, resM_none, isLst_ref, lstOf_ref, lstOf_lst, seqOf_tup, seqOf_lst, seqOf_ref, seqOf_scr, truth_bl, ofE_at, ofT_at, sPass_at, sExpr_at, sRet_at, sRetN_at, sAsg_at, sIf_at, sSeq_at, sFor_at, forLoop_nil, forLoop_cons, gname_at, gtup_at, gtup_lst, go_nil, go_cons, gstar_at, gsub_at, runB_at, startE_at, wipeE_nil, wipeE_cons, isi_at, len_at, all_lst, tuple_at, list_at, isN_eq, isN_ne, isN_in, isN_notIn, cmp_int, add_int, sub_int, mod_int, fdiv_int, mul_int, mul_lst, add_lst, add_refL, app_at, join_at, isStr_str, add_tup, add_str, int_bl, int_int, sl_tup, sl_lst, sl_str, pow_int, neg_int, ix_tup, ix_lst, ix_ref, ix_scr, Res.bind_ok, Res.bind_bad, Res.bind_exc, List.getElem?_cons_zero, List.getElem?_cons_succ, List.getElem?_nil, List.map_cons, List.map_nil, List.cons_append, List.nil_append, List.append_nil, List.length_cons, List.length_nil, List.set_cons_zero, List.set_cons_succ, Option.map_some, Option.map_none, Option.isSome_some, List.replicate_succ, List.replicate_zero, if_true, if_false, reduceIte, Nat.reduceAdd, Nat.reduceSub, Nat.reduceLeDiff, Nat.reduceEqDiff, Nat.reduceLT, Bool.false_eq_true, and_self, and_true, true_and, List.drop_succ_cons, List.drop_zero, List.take_succ_cons, List.take_zero, Nat.zero_add, Nat.add_zero, Bool.not_true, Bool.not_false, Nat.sub_self, Nat.le_refl, Int.reduceLT, Int.reduceNeg, Nat.reducePow, Int.reducePow, Int.reduceToNat, Int.reduceAdd, Int.reduceSub, Int.reduceLE, Int.cast_ofNat_Int, Int.reduceBEq, List.flatten_cons, List.flatten_nil, Nat.reduceMul, Nat.one_mul, Nat.mul_one, Nat.mul_zero, Nat.zero_le, Int.reduceMul, bls_map]
  simp
theorem F_filled_ok {own as : List Str} {kvs : KVD} {f : Str → Str} (w : Wrds own as kvs f) (hl : own.length = as.length) (h5 : as.length ≤ 100) (ha : ∀ a ∈ as, Low a) {e : Nat} (he : e ≤ 3) {its : List It} (hi5 : its.length ≤ 5) (hi : ∀ i ∈ its, It.Ok 2 e i) (h : Hd) : F_filled [bodyD its, .tup (own.map .str), .tup (as.map .str)] h = .ok (bodyD (its.map (It.fill f))) h := by
  have hb := F_items (G := FF_filled_item 11 0) (fun t ht => F_item w.wds (m := 2) (by decide) (hi t ht) (k := 11) (by omega) h) (len_le (by omega)) (FF_filled_item 11 1) (FF_filled_item 11 2)
  have hb' : F_filled_body [bodyD its, .dic (kvs.map (·.1)) (kvs.map (·.2))] h = .ok (bodyD (its.map (It.fill f))) h := hb
  have hm : (compLoop (gname 2) yes (mcall F_is_name 1 [] (mcons (mvar 2) mnil)) [some (.tup (as.map .str)), some (.int ((as.length : Nat) : Int)), none] (as.map .str) [] h) = some ((as.map fun _ => D.bl true), h) := by
    rw [comp_mapm (f := fun _ => .bl true) fun a h1 => by simp only [mc_at, mvar_at, mnil_at, mcons_at, mop1_at, mop2_at, mtup_at, mlst_at, mfun_at, mand_at, mor_at, mnot_at, mandT_at, morT_at, mnotT_at, mtru_at, mbl_at, mite_at, mchain_at, mcall_at, mcallN_at, mmeth_at, msl_at, mpart0, mpart1, mdic0_at, iseq_at, irng_at, mcomp_at, fin_none, fin_v, fin_newF, fin_newT, resM_some, resM_none, isLst_ref, lstOf_ref, lstOf_lst, seqOf_tup, seqOf_lst, seqOf_ref, seqOf_scr, truth_bl, ofE_at, ofT_at, sPass_at, sExpr_at, sRet_at, sRetN_at, sAsg_at, sIf_at, sSeq_at, sFor_at, forLoop_nil, forLoop_cons, gname_at, gtup_at, gtup_lst, go_nil, go_cons, gstar_at, gsub_at, runB_at, startE_at, wipeE_nil, wipeE_cons, isi_at, len_at, all_lst, tuple_at, list_at, isN_eq, isN_ne, isN_in, isN_notIn, cmp_int, add_int, sub_int, mod_int, fdiv_int, mul_int, mul_lst, add_lst, add_refL, app_at, join_at, isStr_str, add_tup, add_str, int_bl, int_int, sl_tup, sl_lst, sl_str, pow_int, neg_int, ix_tup, ix_lst, ix_ref, ix_scr, Res.bind_ok, Res.bind_bad, Res.bind_exc, List.getElem?_cons_zero, List.getElem?_cons_succ, List.getElem?_nil, List.map_cons, List.map_nil, List.cons_append, List.nil_append, List.append_nil, List.length_cons, List.length_nil, List.set_cons_zero, List.set_cons_succ, Option.map_some, Option.map_none, Option.isSome_some, List.replicate_succ, List.replicate_zero, if_true, if_false, reduceIte, Nat.reduceAdd, Nat.reduceSub, Nat.reduceLeDiff, Nat.reduceEqDiff, Nat.reduceLT, Bool.false_eq_true, and_self, and_true, true_and, List.drop_succ_cons, List.drop_zero, List.take_succ_cons, List.take_zero, Nat.zero_add, Nat.add_zero, Bool.not_true, Bool.not_false, Nat.sub_self, Nat.le_refl, Int.reduceLT, Int.reduceNeg, Nat.reducePow, Int.reducePow, Int.reduceToNat, Int.reduceAdd, Int.reduceSub, Int.reduceLE, Int.cast_ofNat_Int, Int.reduceBEq, List.flatten_cons, List.flatten_nil, Nat.reduceMul, Nat.one_mul, Nat.mul_one, Nat.mul_zero, Nat.zero_le, Int.reduceMul, name_low (ha a h1)]]
    simp
  simp only [F_filled, m_filled, F_are_arguments, m_are_arguments, mc_at, mvar_at, mnil_at, mcons_at, mop1_at, mop2_at, mtup_at, mlst_at, mfun_at, mand_at, mor_at, mnot_at, mandT_at, morT_at, mnotT_at, mtru_at, mbl_at, mite_at, mchain_at, mcall_at, mcallN_at, mmeth_at, msl_at, mpart0, mpart1, mdic0_at, iseq_at, irng_at, mcomp_at, fin_none, fin_v, fin_newF, fin_newT, resM_some, resM_none, isLst_ref, lstOf_ref, lstOf_lst, seqOf_tup, seqOf_lst, seqOf_ref, seqOf_scr, truth_bl, ofE_at, ofT_at, sPass_at, sExpr_at, sRet_at, sRetN_at, sAsg_at, sIf_at, sSeq_at, sFor_at, forLoop_nil, forLoop_cons, gname_at, gtup_at, gtup_lst, go_nil, go_cons, gstar_at, gsub_at, runB_at, startE_at, wipeE_nil, wipeE_cons, isi_at, len_at, all_lst, tuple_at, list_at, isN_eq, isN_ne, isN_in, isN_notIn, cmp_int, add_int, sub_int, mod_int, fdiv_int, mul_int, mul_lst, add_lst, add_refL, app_at, join_at, isStr_str, add_tup, add_str, int_bl, int_int, sl_tup, sl_lst, sl_str, pow_int, neg_int, ix_tup, ix_lst, ix_ref, ix_scr, Res.bind_ok, Res.bind_bad, Res.bind_exc, List.getElem?_cons_zero, List.getElem?_cons_succ, List.getElem?_nil, List.map_cons, List.map_nil, List.cons_append, List.nil_append, List.append_nil, List.length_cons, List.length_nil, List.set_cons_zero, List.set_cons_succ, Option.map_some, Option.map_none, Option.isSome_some, List.replicate_succ, List.replicate_zero, if_true, if_false, reduceIte, Nat.reduceAdd, Nat.reduceSub, Nat.reduceLeDiff, Nat.reduceEqDiff, Nat.reduceLT, Bool.false_eq_true, and_self, and_true, true_and, List.drop_succ_cons, List.drop_zero, List.take_succ_cons, List.take_zero, Nat.zero_add, Nat.add_zero, Bool.not_true, Bool.not_false, Nat.sub_self, Nat.le_refl, Int.reduceLT, Int.reduceNeg, Nat.reducePow, Int.reducePow, Int.reduceToNat, Int.reduceAdd, Int.reduceSub, Int.reduceLE, Int.cast_ofNat_Int, Int.reduceBEq, List.flatten_cons, List.flatten_nil, Nat.reduceMul, Nat.one_mul, Nat.mul_one, Nat.mul_zero, Nat.zero_le, Int.reduceMul, lenOf, List.length_map, hl, tyOf, isSub, eqv, beq_self_eq_true, itemsOf, hm, bls_map, mdzip_at, finD]
  have hall : ∀ l : List Str, ((l.map fun _ => true).all id) = true := fun l => by simp
  simp only [mc_at, mvar_at, mnil_at, mcons_at, mop1_at, mop2_at, mtup_at, mlst_at, mfun_at, mand_at, mor_at, mnot_at, mandT_at, morT_at, mnotT_at, mtru_at, mbl_at, mite_at, mchain_at, mcall_at, mcallN_at, mmeth_at, msl_at, mpart0, mpart1, mdic0_at, iseq_at, irng_at, mcomp_at, fin_none, fin_v, fin_newF, fin_newT, resM_some, resM_none, isLst_ref, lstOf_ref, lstOf_lst, seqOf_tup, seqOf_lst, seqOf_ref, seqOf_scr, truth_bl, ofE_at, ofT_at, sPass_at, sExpr_at, sRet_at, sRetN_at, sAsg_at, sIf_at, sSeq_at, sFor_at, forLoop_nil, forLoop_cons, gname_at, gtup_at, gtup_lst, go_nil, go_cons, gstar_at, gsub_at, runB_at, startE_at, wipeE_nil, wipeE_cons, isi_at, len_at, all_lst, tuple_at, list_at, isN_eq, isN_ne, isN_in, isN_notIn, cmp_int, add_int, sub_int, mod_int, fdiv_int, mul_int, mul_lst, add_lst, add_refL, app_at, join_at, isStr_str, add_tup, add_str, int_bl, int_int, sl_tup, sl_lst, sl_str, pow_int, neg_int, ix_tup, ix_lst, ix_ref, ix_scr, Res.bind_ok, Res.bind_bad, Res.bind_exc, List.getElem?_cons_zero, List.getElem?_cons_succ, List.getElem?_nil, List.map_cons, List.map_nil, List.cons_append, List.nil_append, List.append_nil, List.length_cons, List.length_nil, List.set_cons_zero, List.set_cons_succ, Option.map_some, Option.map_none, Option.isSome_some, List.replicate_succ, List.replicate_zero, if_true, if_false, reduceIte, Nat.reduceAdd, Nat.reduceSub, Nat.reduceLeDiff, Nat.reduceEqDiff, Nat.reduceLT, Bool.false_eq_true, and_self, and_true, true_and, List.drop_succ_cons, List.drop_zero, List.take_succ_cons, List.take_zero, Nat.zero_add, Nat.add_zero, Bool.not_true, Bool.not_false, Nat.sub_self, Nat.le_refl, Int.reduceLT, Int.reduceNeg, Nat.reducePow, Int.reducePow, Int.reduceToNat, Int.reduceAdd, Int.reduceSub, Int.reduceLE, Int.cast_ofNat_Int, Int.reduceBEq, List.flatten_cons, List.flatten_nil, Nat.reduceMul, Nat.one_mul, Nat.mul_one, Nat.mul_zero, Nat.zero_le, Int.reduceMul, hall]
  rw [w.zip]
  simp only [mc_at, mvar_at, mnil_at, mcons_at, mop1_at, mop2_at, mtup_at, mlst_at, mfun_at, mand_at, mor_at, mnot_at, mandT_at, morT_at, mnotT_at, mtru_at, mbl_at, mite_at, mchain_at, mcall_at, mcallN_at, mmeth_at, msl_at, mpart0, mpart1, mdic0_at, iseq_at, irng_at, mcomp_at, fin_none, fin_v, fin_newF, fin_newT, resM_some, resM_none, isLst_ref, lstOf_ref, lstOf_lst, seqOf_tup, seqOf_lst, seqOf_ref, seqOf_scr, truth_bl, ofE_at, ofT_at, sPass_at, sExpr_at, sRet_at, sRetN_at, sAsg_at, sIf_at, sSeq_at, sFor_at, forLoop_nil, forLoop_cons, gname_at, gtup_at, gtup_lst, go_nil, go_cons, gstar_at, gsub_at, runB_at, startE_at, wipeE_nil, wipeE_cons, isi_at, len_at, all_lst, tuple_at, list_at, isN_eq, isN_ne, isN_in, isN_notIn, cmp_int, add_int, sub_int, mod_int, fdiv_int, mul_int, mul_lst, add_lst, add_refL, app_at, join_at, isStr_str, add_tup, add_str, int_bl, int_int, sl_tup, sl_lst, sl_str, pow_int, neg_int, ix_tup, ix_lst, ix_ref, ix_scr, Res.bind_ok, Res.bind_bad, Res.bind_exc, List.getElem?_cons_zero, List.getElem?_cons_succ, List.getElem?_nil, List.map_cons, List.map_nil, List.cons_append, List.nil_append, List.append_nil, List.length_cons, List.length_nil, List.set_cons_zero, List.set_cons_succ, Option.map_some, Option.map_none, Option.isSome_some, List.replicate_succ, List.replicate_zero, if_true, if_false, reduceIte, Nat.reduceAdd, Nat.reduceSub, Nat.reduceLeDiff, Nat.reduceEqDiff, Nat.reduceLT, Bool.false_eq_true, and_self, and_true, true_and, List.drop_succ_cons, List.drop_zero, List.take_succ_cons, List.take_zero, Nat.zero_add, Nat.add_zero, Bool.not_true, Bool.not_false, Nat.sub_self, Nat.le_refl, Int.reduceLT, Int.reduceNeg, Nat.reducePow, Int.reducePow, Int.reduceToNat, Int.reduceAdd, Int.reduceSub, Int.reduceLE, Int.cast_ofNat_Int, Int.reduceBEq, List.flatten_cons, List.flatten_nil, Nat.reduceMul, Nat.one_mul, Nat.mul_one, Nat.mul_zero, Nat.zero_le, Int.reduceMul, hb']
theorem exp_ok {own as : List Str} {kvs : KVD} {f : Str → Str} (w : Wrds own as kvs f) (hl : own.length = as.length) (h5 : as.length ≤ 100) (ha : ∀ a ∈ as, Low a) {e : Nat} (he : e ≤ 3) {its : List It} (hi5 : its.length ≤ 5) (hi : ∀ i ∈ its, It.Ok 2 e i) (hf : ∀ i ∈ its.map (It.fill f), It.Ok 2 e i)
    {x y z mo home : D} {place : List D} (hp : place.length ≤ 1000) (h : Hd) : F_expansion [.tup [x, y, .tup (own.map .str), bodyD its, z], .tup (as.map .str), .tup place, mo, home] h = .ok (.lst (It.entsL 0 place mo home (its.map (It.fill f)))) h := by
  have h1 := F_filled_ok w hl h5 ha he hi5 hi h
  have hN : entN 2 e ≤ entN 2 3 := by
    have : e = 0 ∨ e = 1 ∨ e = 2 ∨ e = 3 := by omega
    rcases this with rfl | rfl | rfl | rfl <;> decide
  have hN3 : entN 2 3 = 15 := rfl
  have hm := Nat.mul_le_mul hi5 hN
  have hz : its.length * entN 2 e ≤ sizeLine := len_le (by omega)
  have h2 := placed_ok (m := 2) (n := 12) (e := e) (its := its.map (It.fill f)) (place := place) (mo := mo) (th := home) (h := h) (acc := []) hf (by omega) (by rw [List.length_map]; exact len_le (by omega)) (by rw [sizeLine_eq]; omega) (by rw [List.length_map, List.length_nil, Nat.zero_add]; exact hz)
  have h3 : (It.entsL 0 place mo home (its.map (It.fill f))).length ≤ sizeLine := by
    have := entsL_len (i := 0) (place := place) (mo := mo) (th := home) (k := entN 2 e) (its := its.map (It.fill f)) fun t ht p mo => ents_len (hf t ht) p mo home
    rw [List.length_map] at this
    omega
  rw [List.nil_append] at h2
  simp only [F_expansion, m_expansion, mc_at, mvar_at, mnil_at, mcons_at, mop1_at, mop2_at, mtup_at, mlst_at, mfun_at, mand_at, mor_at, mnot_at, mandT_at, morT_at, mnotT_at, mtru_at, mbl_at, mite_at, mchain_at, mcall_at, mcallN_at, mmeth_at, msl_at, mpart0, mpart1, mdic0_at, iseq_at, irng_at, mcomp_at, fin_none, fin_v, fin_newF, fin_newT, resM_some, resM_none, isLst_ref, lstOf_ref, lstOf_lst, seqOf_tup, seqOf_lst, seqOf_ref, seqOf_scr, truth_bl, ofE_at, ofT_at, sPass_at, sExpr_at, sRet_at, sRetN_at, sAsg_at, sIf_at, sSeq_at, sFor_at, forLoop_nil, forLoop_cons, gname_at, gtup_at, gtup_lst, go_nil, go_cons, gstar_at, gsub_at, runB_at, startE_at, wipeE_nil, wipeE_cons, isi_at, len_at, all_lst, tuple_at, list_at, isN_eq, isN_ne, isN_in, isN_notIn, cmp_int, add_int, sub_int, mod_int, fdiv_int, mul_int, mul_lst, add_lst, add_refL, app_at, join_at, isStr_str, add_tup, add_str, int_bl, int_int, sl_tup, sl_lst, sl_str, pow_int, neg_int, ix_tup, ix_lst, ix_ref, ix_scr, gQ_at, gYield_at, gSeq_at, gIf_at, gLoop_nil, gFor_at, gFrom_at, runG_at, ienum_at, mlistG_at, runL_at, Res.bind_ok, Res.bind_bad, Res.bind_exc, List.getElem?_cons_zero, List.getElem?_cons_succ, List.getElem?_nil, List.map_cons, List.map_nil, List.cons_append, List.nil_append, List.append_nil, List.length_cons, List.length_nil, List.set_cons_zero, List.set_cons_succ, Option.map_some, Option.map_none, Option.isSome_some, List.replicate_succ, List.replicate_zero, if_true, if_false, reduceIte, Nat.reduceAdd, Nat.reduceSub, Nat.reduceLeDiff, Nat.reduceEqDiff, Nat.reduceLT, Bool.false_eq_true, and_self, and_true, true_and, List.drop_succ_cons, List.drop_zero, List.take_succ_cons, List.take_zero, Nat.zero_add, Nat.add_zero, Bool.not_true, Bool.not_false, Nat.sub_self, Nat.le_refl, Int.reduceLT, Int.reduceNeg, Nat.reducePow, Int.reducePow, Int.reduceToNat, Int.reduceAdd, Int.reduceSub, Int.reduceLE, Int.cast_ofNat_Int, Int.reduceBEq, List.flatten_cons, List.flatten_nil, Nat.reduceMul, Nat.one_mul, Nat.mul_one, Nat.mul_zero, Nat.zero_le, Int.reduceMul, at2, at3, h1, F_placed, h2, h3]
end EV


/-! K24e: the law. -/
namespace EV
open PySem PySem.Spec PyProof.Rows L2 RP
theorem wrds1 (p a : Str) : Wrds [p] [a] [(.inr p, .str a)] (fun w => if w = p then a else w) where
  zip := rfl
  wds := ⟨_, _, rfl, fun w => by
    show ((if (Sum.inr p : Key) = .inr w then some (D.str a) else none).getD (.str w)) = _
    by_cases h : w = p
    · subst h; simp
    · rw [if_neg fun e => h (Sum.inr.inj e).symm, if_neg h]; rfl⟩
  or := fun w => by
    by_cases h : w = p
    · left; rw [if_pos h]; exact List.mem_cons_self
    · right; rw [if_neg h]; exact ⟨rfl, fun hm => h (List.mem_singleton.mp hm)⟩
/-- the inner module's lines -/
def lines (a b two : Str) : List It := [.use b "there" [a, b] false, .call "there" [two] [a, b]]
def its24 (a one two : Str) : List It := [.mod a [.use a "there" [one] true, .mod "near" [.mac "deep" ["B"] (lines a "B" two) true, .glob "there" [] false] false] true, .fn two (.ref "there" [a]) true]
theorem low_near : Low "near" := low_of (by decide +kernel)
theorem low_deep : Low "deep" := low_of (by decide +kernel)
theorem low_there : Low "there" := low_of (by decide +kernel)
theorem upp_A : Upp "A" := upp_of (by decide +kernel)
theorem upp_B : Upp "B" := upp_of (by decide +kernel)
theorem lines_ok {a b two : Str} (ha : Fit a) (hb : Fit b) (ht : Low two) {e : Nat} : ∀ i ∈ lines a b two, It.Ok 2 e i := by
  intro i hi
  simp only [lines, List.mem_cons, List.not_mem_nil, or_false] at hi
  rcases hi with rfl | rfl
  · simp only [It.Ok]
    exact ⟨hb, low_there, Nat.le_of_ble_eq_true rfl, fun w hw => by
      simp only [List.mem_cons, List.not_mem_nil, or_false] at hw
      rcases hw with rfl | rfl
      · exact ha
      · exact hb⟩
  · simp only [It.Ok]
    exact ⟨⟨low_there, Nat.le_of_ble_eq_true rfl, fun w hw => by rw [List.mem_singleton.mp hw]; exact .inl ht⟩, Nat.le_of_ble_eq_true rfl, fun w hw => by
      simp only [List.mem_cons, List.not_mem_nil, or_false] at hw
      rcases hw with rfl | rfl
      · exact ha
      · exact hb⟩
theorem its24_ok {a one two : Str} (ha : Fit a) (h1 : Low one) (h2 : Low two) : ∀ i ∈ its24 a one two, It.Ok 2 3 i := by
  intro i hi
  simp only [its24, List.mem_cons, List.not_mem_nil, or_false] at hi
  rcases hi with rfl | rfl
  · rw [It.Ok]
    refine ⟨ha, Nat.le_of_ble_eq_true rfl, fun j hj => ?_⟩
    simp only [List.mem_cons, List.not_mem_nil, or_false] at hj
    rcases hj with rfl | rfl
    · simp only [It.Ok]
      exact ⟨ha, low_there, Nat.le_of_ble_eq_true rfl, fun w hw => by rw [List.mem_singleton.mp hw]; exact .inl h1⟩
    · rw [It.Ok]
      refine ⟨.inl low_near, Nat.le_of_ble_eq_true rfl, fun k hk => ?_⟩
      simp only [List.mem_cons, List.not_mem_nil, or_false] at hk
      rcases hk with rfl | rfl
      · rw [It.Ok]
        exact ⟨.inl low_deep, ⟨Nat.le_of_ble_eq_true rfl, fun p hp => by rw [List.mem_singleton.mp hp]; exact upp_B⟩, Nat.le_of_ble_eq_true rfl, lines_ok ha (.inr upp_B) h2⟩
      · simp only [It.Ok]
        exact ⟨low_there, Nat.le_of_ble_eq_true rfl, fun w hw => nomatch hw⟩
  · simp only [It.Ok, Tm.Ok]
    exact ⟨.inl h2, low_there, Nat.le_of_ble_eq_true rfl, fun w hw => by rw [List.mem_singleton.mp hw]; exact ha⟩
theorem macro_at (one two : Str) (h : Hd) : F__law_macro [.str one, .str two] h = .ok (.tup [.str "macro", .str "wide", .tup [.str "A"], bodyD (its24 "A" one two), .bl false]) h := by
  have z1 : 1 ≤ sizeLine := len_le (by decide)
  have z2 : 2 ≤ sizeLine := len_le (by decide)
  have z3 : 3 ≤ sizeLine := len_le (by decide)
  have z4 : 4 ≤ sizeLine := len_le (by decide)
  have z5 : 5 ≤ sizeLine := len_le (by decide)
  simp only [F__law_macro, m__law_macro, mc_at, mvar_at, mnil_at, mcons_at, mop1_at, mop2_at, mtup_at, mlst_at, mfun_at, mand_at, mor_at, mnot_at, mandT_at, morT_at, mnotT_at, mtru_at, mbl_at, mite_at, mchain_at, mcall_at, mcallN_at, mmeth_at, msl_at, mpart0, mpart1, mdic0_at, iseq_at, irng_at, mcomp_at, fin_none, fin_v, fin_newF, fin_newT, resM_some, resM_none, isLst_ref, lstOf_ref, lstOf_lst, seqOf_tup, seqOf_lst, seqOf_ref, seqOf_scr, truth_bl, ofE_at, ofT_at, sPass_at, sExpr_at, sRet_at, sRetN_at, sAsg_at, sIf_at, sSeq_at, sFor_at, forLoop_nil, forLoop_cons, gname_at, gtup_at, gtup_lst, go_nil, go_cons, gstar_at, gsub_at, runB_at, startE_at, wipeE_nil, wipeE_cons, isi_at, len_at, all_lst, tuple_at, list_at, isN_eq, isN_ne, isN_in, isN_notIn, cmp_int, add_int, sub_int, mod_int, fdiv_int, mul_int, mul_lst, add_lst, add_refL, app_at, join_at, isStr_str, add_tup, add_str, int_bl, int_int, sl_tup, sl_lst, sl_str, pow_int, neg_int, ix_tup, ix_lst, ix_ref, ix_scr, Res.bind_ok, Res.bind_bad, Res.bind_exc, List.getElem?_cons_zero, List.getElem?_cons_succ, List.getElem?_nil, List.map_cons, List.map_nil, List.cons_append, List.nil_append, List.append_nil, List.length_cons, List.length_nil, List.set_cons_zero, List.set_cons_succ, Option.map_some, Option.map_none, Option.isSome_some, List.replicate_succ, List.replicate_zero, if_true, if_false, reduceIte, Nat.reduceAdd, Nat.reduceSub, Nat.reduceLeDiff, Nat.reduceEqDiff, Nat.reduceLT, Bool.false_eq_true, and_self, and_true, true_and, List.drop_succ_cons, List.drop_zero, List.take_succ_cons, List.take_zero, Nat.zero_add, Nat.add_zero, Bool.not_true, Bool.not_false, Nat.sub_self, Nat.le_refl, Int.reduceLT, Int.reduceNeg, Nat.reducePow, Int.reducePow, Int.reduceToNat, Int.reduceAdd, Int.reduceSub, Int.reduceLE, Int.cast_ofNat_Int, Int.reduceBEq, List.flatten_cons, List.flatten_nil, Nat.reduceMul, Nat.one_mul, Nat.mul_one, Nat.mul_zero, Nat.zero_le, Int.reduceMul, z1, z2, z3, z4, z5]
  rfl
theorem fill24 {one two three : Str} (h1 : Low one) (h2 : Low two) : (its24 "A" one two).map (It.fill fun w => if w = "A" then three else w) = its24 three one two := by
  have n1 := h1.ne upp_A
  have n2 := h2.ne upp_A
  have n3 := low_near.ne upp_A
  have n4 := low_deep.ne upp_A
  have n5 : ("B" : Str) ≠ "A" := by decide +kernel
  simp only [its24, lines, List.map_cons, List.map_nil, It.fill, It.fills, Tm.fill, if_true, n1, n2, n3, n4, n5, if_false]
theorem fillB {two three four : Str} (h2 : Low two) (h3 : Low three) : (lines three "B" two).map (It.fill fun w => if w = "B" then four else w) = lines three four two := by
  have n2 := h2.ne upp_B
  have n3 := h3.ne upp_B
  simp only [lines, List.map_cons, List.map_nil, It.fill, if_true, n2, n3, if_false]
theorem PnL.spot {is : List Int} (hl : is.length ≤ 36) (hi : ∀ i ∈ is, spotOk i) : PnL 0 2232 (is.map .int) := by
  have key : ∀ i, spotOk i → intOk i = true := fun i h => by
    simp only [spotOk, List.mem_cons, List.not_mem_nil, or_false] at h
    rcases h with rfl | rfl | rfl | rfl | rfl <;> decide +kernel
  refine ⟨plL_of fun x hx => ?_, dpL_le fun x hx => ?_, Nat.le_trans (szL_le (k := 60) fun x hx => ?_) (by rw [List.length_map]; omega)⟩
  all_goals (obtain ⟨i, hm, rfl⟩ := List.mem_map.mp hx)
  · exact (Pn.int (key i (hi i hm))).pl
  · exact (Pn.int (key i (hi i hm))).dp
  · exact (Pn.int (key i (hi i hm))).sz
/-- the entries of the first expansion -/
theorem ents24 (one two three : Str) (cs ms hs : List D) : ∃ b0 i2 : D, It.entsL 0 cs (.tup ms) (.tup hs) (its24 three one two) = [entD (cs ++ [.int 0]) (.tup ms) (.tup hs) (.tup [.str "mod", .str three, b0, .bl true]), entD (cs ++ [.int 0, .int 0]) (.tup (cs ++ [.int 0])) (.tup hs) (.tup [.str "use", .str three, .tup [.str "there", .str one], .bl true]),
      entD (cs ++ [.int 0, .int 1]) (.tup (cs ++ [.int 0])) (.tup hs) i2, entD (cs ++ [.int 0, .int 1, .int 0]) (.tup (cs ++ [.int 0, .int 1])) (.tup hs) (.tup [.str "macro", .str "deep", .tup [.str "B"], bodyD (lines three "B" two), .bl true]),
      entD (cs ++ [.int 0, .int 1, .int 1]) (.tup (cs ++ [.int 0, .int 1])) (.tup hs) (.tup [.str "glob", .tup [.str "there"], .bl false]), entD (cs ++ [.int 1]) (.tup ms) (.tup hs) (.tup [.str "fn", .str two, .tup [.str "ref", .tup [.str "there", .str three]], .bl true])] := by
  refine ⟨.tup (It.ds [.use three "there" [one] true, .mod "near" [.mac "deep" ["B"] (lines three "B" two) true, .glob "there" [] false] false]), It.d (.mod "near" [.mac "deep" ["B"] (lines three "B" two) true, .glob "there" [] false] false), ?_⟩
  simp only [its24, It.entsL, It.ents, List.append_assoc, List.cons_append, List.nil_append, List.append_nil, It.d, It.ds_map, bodyD, pathD, List.map_cons, List.map_nil, Tm.d, Nat.zero_add]
  rfl
theorem ents2 (two three four : Str) (ls cs : List D) : It.entsL 0 ls (.tup cs) (.tup (cs ++ [.int 0, .int 1])) (lines three four two) = [entD (ls ++ [.int 0]) (.tup cs) (.tup (cs ++ [.int 0, .int 1])) (.tup [.str "use", .str four, .tup [.str "there", .str three, .str four], .bl false]),
      entD (ls ++ [.int 1]) (.tup cs) (.tup (cs ++ [.int 0, .int 1])) (.tup [.str "call", .tup [.str "there", .str two], .tup [.str three, .str four]])] := by
  simp only [lines, It.entsL, It.ents, List.append_assoc, List.cons_append, List.nil_append, List.append_nil, It.d, pathD, List.map_cons, List.map_nil, Nat.zero_add]
  rfl
theorem lines_at (a b two : Str) : bodyD (lines a b two) = .tup [.tup [.str "use", .str b, .tup [.str "there", .str a, .str b], .bl false], .tup [.str "call", .tup [.str "there", .str two], .tup [.str a, .str b]]] := rfl
end EV


/-! K24f: the law. -/
namespace EV
open PySem PySem.Spec PyProof.Rows L2 RP
section
variable {n : Nat} {h : Hd} {Q : D → Hd → Prop} {E : Exn → Hd → Prop} {env : Env}
theorem right_of (r : RngAt h n) (k : ∀ h', Q (.bl true) h') : Sat (F__law_right [.ref n] h) Q E := by
  have z1 : 1 ≤ sizeLine := len_le (by decide)
  have z2 : 2 ≤ sizeLine := len_le (by decide)
  have z3 : 3 ≤ sizeLine := len_le (by decide)
  have z4 : 4 ≤ sizeLine := len_le (by decide)
  have z5 : 5 ≤ sizeLine := len_le (by decide)
  have z6 : 6 ≤ sizeLine := len_le (by decide)
  simp only [F__law_right, m__law_right, mc_at, mvar_at, mnil_at, mcons_at, mop1_at, mop2_at, mtup_at, mlst_at, mfun_at, mand_at, mor_at, mnot_at, mandT_at, morT_at, mnotT_at, mtru_at, mbl_at, mite_at, mchain_at, mcall_at, mcallN_at, mmeth_at, msl_at, mpart0, mpart1, mdic0_at, iseq_at, irng_at, fin_none, fin_v, fin_newF, fin_newT, resM_some, resM_none, isLst_ref, lstOf_ref, lstOf_lst, seqOf_tup, seqOf_lst, seqOf_ref, seqOf_scr, truth_bl, forLoop_nil, gname_at, gtup_at, gtup_lst, go_nil, go_cons, gstar_at, gsub_at, startE_at, wipeE_nil, wipeE_cons, isi_at, len_at, all_lst, tuple_at, list_at, isN_eq, isN_ne, isN_in, isN_notIn, cmp_int, add_int, sub_int, mod_int, fdiv_int, mul_int, mul_lst, add_lst, add_refL, app_at, join_at, isStr_str, add_tup, add_str, int_bl, int_int, sl_tup, sl_lst, sl_str, pow_int, neg_int, ix_tup, ix_lst, ix_ref, ix_scr, sat_ok, sat_exc, sat_bad, sat_bind, satS_some, satS_none, satO_some, satO_none, toRet_nx, toRet_ret, toRet_exc, sat_run, toSeq_nx, toSeq_ret, toSeq_exc, toSeq_bk, toSeq_ct, satS_seq, satS_pass, satS_brk, satS_cnt, satS_expr, satS_ret, satS_retN, satS_asg, satS_if, satS_for, sat_comp, satS_par2, satS_par3, sat_ite, fin_ite, mdisp_at, mpairs_nil, mpairs_cons, mixd_at, mget2_at, mdict_at, mfz_at, mstar_at, mdzip_at, gQ_at, gYield_at, gSeq_at, gIf_at, gLoop_nil, gFor_at, gFrom_at, runG_at, ienum_at, mlistG_at, sat_runL, Res.bind_ok, Res.bind_bad, Res.bind_exc, List.getElem?_cons_zero, List.getElem?_cons_succ, List.getElem?_nil, List.map_cons, List.map_nil, List.cons_append, List.nil_append, List.append_nil, List.length_cons, List.length_nil, List.set_cons_zero, List.set_cons_succ, Option.map_some, Option.map_none, Option.isSome_some, List.replicate_succ, List.replicate_zero, if_true, if_false, reduceIte, Nat.reduceAdd, Nat.reduceSub, Nat.reduceLeDiff, Nat.reduceEqDiff, Nat.reduceLT, Bool.false_eq_true, and_self, and_true, true_and, List.drop_succ_cons, List.drop_zero, List.take_succ_cons, List.take_zero, Nat.zero_add, Nat.add_zero, Bool.not_true, Bool.not_false, Nat.sub_self, Nat.le_refl, Int.reduceLT, Int.reduceNeg, Nat.reducePow, Int.reducePow, Int.reduceToNat, Int.reduceAdd, Int.reduceSub, Int.reduceLE, Int.cast_ofNat_Int, Int.reduceBEq, List.flatten_cons, List.flatten_nil, Nat.reduceMul, Nat.one_mul, Nat.mul_one, Nat.mul_zero, Nat.zero_le, Int.reduceMul, z3]
  refine names_satU r (m := 4) (by decide) (us := ["near", "deep", "wide"]) (by decide) fun zs h1 s1 l1 p1 _ _ => ?_
  obtain ⟨one, two, three, four, rfl⟩ : ∃ a b c d, zs = [a, b, c, d] := by
    match zs, l1 with
    | [a, b, c, d], _ => exact ⟨a, b, c, d, rfl⟩
  have q1 : Low one := p1 _ (by simp)
  have q2 : Low two := p1 _ (by simp)
  have q3 : Low three := p1 _ (by simp)
  have q4 : Low four := p1 _ (by simp)
  simp only [mc_at, mvar_at, mnil_at, mcons_at, mop1_at, mop2_at, mtup_at, mlst_at, mfun_at, mand_at, mor_at, mnot_at, mandT_at, morT_at, mnotT_at, mtru_at, mbl_at, mite_at, mchain_at, mcall_at, mcallN_at, mmeth_at, msl_at, mpart0, mpart1, mdic0_at, iseq_at, irng_at, fin_none, fin_v, fin_newF, fin_newT, resM_some, resM_none, isLst_ref, lstOf_ref, lstOf_lst, seqOf_tup, seqOf_lst, seqOf_ref, seqOf_scr, truth_bl, forLoop_nil, gname_at, gtup_at, gtup_lst, go_nil, go_cons, gstar_at, gsub_at, startE_at, wipeE_nil, wipeE_cons, isi_at, len_at, all_lst, tuple_at, list_at, isN_eq, isN_ne, isN_in, isN_notIn, cmp_int, add_int, sub_int, mod_int, fdiv_int, mul_int, mul_lst, add_lst, add_refL, app_at, join_at, isStr_str, add_tup, add_str, int_bl, int_int, sl_tup, sl_lst, sl_str, pow_int, neg_int, ix_tup, ix_lst, ix_ref, ix_scr, sat_ok, sat_exc, sat_bad, sat_bind, satS_some, satS_none, satO_some, satO_none, toRet_nx, toRet_ret, toRet_exc, sat_run, toSeq_nx, toSeq_ret, toSeq_exc, toSeq_bk, toSeq_ct, satS_seq, satS_pass, satS_brk, satS_cnt, satS_expr, satS_ret, satS_retN, satS_asg, satS_if, satS_for, sat_comp, satS_par2, satS_par3, sat_ite, fin_ite, mdisp_at, mpairs_nil, mpairs_cons, mixd_at, mget2_at, mdict_at, mfz_at, mstar_at, mdzip_at, gQ_at, gYield_at, gSeq_at, gIf_at, gLoop_nil, gFor_at, gFrom_at, runG_at, ienum_at, mlistG_at, sat_runL, Res.bind_ok, Res.bind_bad, Res.bind_exc, List.getElem?_cons_zero, List.getElem?_cons_succ, List.getElem?_nil, List.map_cons, List.map_nil, List.cons_append, List.nil_append, List.append_nil, List.length_cons, List.length_nil, List.set_cons_zero, List.set_cons_succ, Option.map_some, Option.map_none, Option.isSome_some, List.replicate_succ, List.replicate_zero, if_true, if_false, reduceIte, Nat.reduceAdd, Nat.reduceSub, Nat.reduceLeDiff, Nat.reduceEqDiff, Nat.reduceLT, Bool.false_eq_true, and_self, and_true, true_and, List.drop_succ_cons, List.drop_zero, List.take_succ_cons, List.take_zero, Nat.zero_add, Nat.add_zero, Bool.not_true, Bool.not_false, Nat.sub_self, Nat.le_refl, Int.reduceLT, Int.reduceNeg, Nat.reducePow, Int.reducePow, Int.reduceToNat, Int.reduceAdd, Int.reduceSub, Int.reduceLE, Int.cast_ofNat_Int, Int.reduceBEq, List.flatten_cons, List.flatten_nil, Nat.reduceMul, Nat.one_mul, Nat.mul_one, Nat.mul_zero, Nat.zero_le, Int.reduceMul, range_ok (n := 4) (by decide)]
  refine comp_sat (J := fun _ h' => Stp n h1 h') (P := fun _ y => ∃ is : List Int, y = .tup (is.map .int) ∧ is.length ≤ 36 ∧ ∀ i ∈ is, spotOk i) (Stp.refl s1.rng) (fun j x h2 hx s2 => ?_) fun ys h2 hl hp s2 => ?_
  · simp only [mc_at, mvar_at, mnil_at, mcons_at, mop1_at, mop2_at, mtup_at, mlst_at, mfun_at, mand_at, mor_at, mnot_at, mandT_at, morT_at, mnotT_at, mtru_at, mbl_at, mite_at, mchain_at, mcall_at, mcallN_at, mmeth_at, msl_at, mpart0, mpart1, mdic0_at, iseq_at, irng_at, fin_none, fin_v, fin_newF, fin_newT, resM_some, resM_none, isLst_ref, lstOf_ref, lstOf_lst, seqOf_tup, seqOf_lst, seqOf_ref, seqOf_scr, truth_bl, forLoop_nil, gname_at, gtup_at, gtup_lst, go_nil, go_cons, gstar_at, gsub_at, startE_at, wipeE_nil, wipeE_cons, isi_at, len_at, all_lst, tuple_at, list_at, isN_eq, isN_ne, isN_in, isN_notIn, cmp_int, add_int, sub_int, mod_int, fdiv_int, mul_int, mul_lst, add_lst, add_refL, app_at, join_at, isStr_str, add_tup, add_str, int_bl, int_int, sl_tup, sl_lst, sl_str, pow_int, neg_int, ix_tup, ix_lst, ix_ref, ix_scr, sat_ok, sat_exc, sat_bad, sat_bind, satS_some, satS_none, satO_some, satO_none, toRet_nx, toRet_ret, toRet_exc, sat_run, toSeq_nx, toSeq_ret, toSeq_exc, toSeq_bk, toSeq_ct, satS_seq, satS_pass, satS_brk, satS_cnt, satS_expr, satS_ret, satS_retN, satS_asg, satS_if, satS_for, sat_comp, satS_par2, satS_par3, sat_ite, fin_ite, mdisp_at, mpairs_nil, mpairs_cons, mixd_at, mget2_at, mdict_at, mfz_at, mstar_at, mdzip_at, gQ_at, gYield_at, gSeq_at, gIf_at, gLoop_nil, gFor_at, gFrom_at, runG_at, ienum_at, mlistG_at, sat_runL, Res.bind_ok, Res.bind_bad, Res.bind_exc, List.getElem?_cons_zero, List.getElem?_cons_succ, List.getElem?_nil, List.map_cons, List.map_nil, List.cons_append, List.nil_append, List.append_nil, List.length_cons, List.length_nil, List.set_cons_zero, List.set_cons_succ, Option.map_some, Option.map_none, Option.isSome_some, List.replicate_succ, List.replicate_zero, if_true, if_false, reduceIte, Nat.reduceAdd, Nat.reduceSub, Nat.reduceLeDiff, Nat.reduceEqDiff, Nat.reduceLT, Bool.false_eq_true, and_self, and_true, true_and, List.drop_succ_cons, List.drop_zero, List.take_succ_cons, List.take_zero, Nat.zero_add, Nat.add_zero, Bool.not_true, Bool.not_false, Nat.sub_self, Nat.le_refl, Int.reduceLT, Int.reduceNeg, Nat.reducePow, Int.reducePow, Int.reduceToNat, Int.reduceAdd, Int.reduceSub, Int.reduceLE, Int.cast_ofNat_Int, Int.reduceBEq, List.flatten_cons, List.flatten_nil, Nat.reduceMul, Nat.one_mul, Nat.mul_one, Nat.mul_zero, Nat.zero_le, Int.reduceMul]
    exact spot_sat s2.rng fun is h3 s3 l3 p3 => ⟨s2.trans s3, is, rfl, l3, p3⟩
  have e4 : ys.length = 4 := by simpa using hl
  obtain ⟨y0, y1, y2, y3, rfl⟩ : ∃ a b c d, ys = [a, b, c, d] := by
    match ys, e4 with
    | [a, b, c, d], _ => exact ⟨a, b, c, d, rfl⟩
  obtain ⟨ca, rfl, lc, pc⟩ := hp 0 _ rfl
  obtain ⟨mo, rfl, lm, pm⟩ := hp 1 _ rfl
  obtain ⟨ho, rfl, lh, ph⟩ := hp 2 _ rfl
  obtain ⟨la, rfl, ll, pl⟩ := hp 3 _ rfl
  have SC := PnL.spot lc pc
  have SM := PnL.spot lm pm
  have SH := PnL.spot lh ph
  have SL := PnL.spot ll pl
  clear hl hp p1
  have ok1 := its24_ok (a := "A") (.inr upp_A) q1 q2
  have ok2 := its24_ok (a := three) (.inl q3) q1 q2
  have x1 := fun h' => exp_ok (wrds1 "A" three) rfl (Nat.le_of_ble_eq_true rfl) (fun a ha => by rw [List.mem_singleton.mp ha]; exact q3) (Nat.le_refl 3) (its := its24 "A" one two) (Nat.le_of_ble_eq_true rfl) ok1 (by rw [fill24 q1 q2]; exact ok2)
    (x := .str "macro") (y := .str "wide") (z := .bl false) (mo := .tup (mo.map .int)) (home := .tup (ho.map .int)) (place := ca.map .int) (by rw [List.length_map]; omega) h'
  rw [fill24 q1 q2] at x1
  have x2 := fun h' => exp_ok (wrds1 "B" four) rfl (Nat.le_of_ble_eq_true rfl) (fun a ha => by rw [List.mem_singleton.mp ha]; exact q4) (e := 0) (by decide) (its := lines three "B" two) (Nat.le_of_ble_eq_true rfl) (lines_ok (.inl q3) (.inr upp_B) q2) (by rw [fillB q2 q3]; exact lines_ok (.inl q3) (.inl q4) q2)
    (x := .str "macro") (y := .str "deep") (z := .bl true) (mo := .tup (ca.map .int)) (home := .tup (ca.map .int ++ [.int 0, .int 1])) (place := la.map .int) (by rw [List.length_map]; omega) h'
  rw [fillB q2 q3] at x2
  simp only [List.map_cons, List.map_nil, bodyD] at x1 x2
  have w1 : (ca.map D.int).length + 1 ≤ sizeLine := len_le (by rw [List.length_map]; omega)
  have w2 : (ca.map D.int).length + 2 ≤ sizeLine := len_le (by rw [List.length_map]; omega)
  have w3 : (ca.map D.int).length + 3 ≤ sizeLine := len_le (by rw [List.length_map]; omega)
  have w4 : (la.map D.int).length + 1 ≤ sizeLine := len_le (by rw [List.length_map]; omega)
  have ma := macro_at one two
  simp only [bodyD] at ma
  generalize (its24 "A" one two).map It.d = B at x1 ma
  obtain ⟨es, hes⟩ : ∃ es, es = It.entsL 0 (ca.map .int) (.tup (mo.map .int)) (.tup (ho.map .int)) (its24 three one two) := ⟨_, rfl⟩
  rw [← hes] at x1
  obtain ⟨cs, hcs⟩ : ∃ cs, cs = ca.map D.int := ⟨_, rfl⟩
  obtain ⟨ms, hms⟩ : ∃ cs, cs = mo.map D.int := ⟨_, rfl⟩
  obtain ⟨hs, hhs⟩ : ∃ cs, cs = ho.map D.int := ⟨_, rfl⟩
  obtain ⟨ls, hls⟩ : ∃ cs, cs = la.map D.int := ⟨_, rfl⟩
  rw [← hcs, ← hms, ← hhs] at x1 hes
  rw [← hcs, ← hls] at x2
  rw [← hcs] at SC w1 w2 w3
  rw [← hms] at SM
  rw [← hhs] at SH
  rw [← hls] at SL w4
  rw [← hcs, ← hms, ← hhs, ← hls]
  clear hcs hms hhs hls pc pm ph pl lc lm lh ll
  obtain ⟨b0, i2, e24⟩ := ents24 one two three cs ms hs
  rw [hes.trans e24] at x1
  rw [ents2] at x2
  clear hes e24 ok1 ok2 e4 l1
  simp only [mc_at, mvar_at, mnil_at, mcons_at, mop1_at, mop2_at, mtup_at, mlst_at, mfun_at, mand_at, mor_at, mnot_at, mandT_at, morT_at, mnotT_at, mtru_at, mbl_at, mite_at, mchain_at, mcall_at, mcallN_at, mmeth_at, msl_at, mpart0, mpart1, mdic0_at, iseq_at, irng_at, fin_none, fin_v, fin_newF, fin_newT, resM_some, resM_none, isLst_ref, lstOf_ref, lstOf_lst, seqOf_tup, seqOf_lst, seqOf_ref, seqOf_scr, truth_bl, forLoop_nil, gname_at, gtup_at, gtup_lst, go_nil, go_cons, gstar_at, gsub_at, startE_at, wipeE_nil, wipeE_cons, isi_at, len_at, all_lst, tuple_at, list_at, isN_eq, isN_ne, isN_in, isN_notIn, cmp_int, add_int, sub_int, mod_int, fdiv_int, mul_int, mul_lst, add_lst, add_refL, app_at, join_at, isStr_str, add_tup, add_str, int_bl, int_int, sl_tup, sl_lst, sl_str, pow_int, neg_int, ix_tup, ix_lst, ix_ref, ix_scr, sat_ok, sat_exc, sat_bad, sat_bind, satS_some, satS_none, satO_some, satO_none, toRet_nx, toRet_ret, toRet_exc, sat_run, toSeq_nx, toSeq_ret, toSeq_exc, toSeq_bk, toSeq_ct, satS_seq, satS_pass, satS_brk, satS_cnt, satS_expr, satS_ret, satS_retN, satS_asg, satS_if, satS_for, sat_comp, satS_par2, satS_par3, sat_ite, fin_ite, mdisp_at, mpairs_nil, mpairs_cons, mixd_at, mget2_at, mdict_at, mfz_at, mstar_at, mdzip_at, gQ_at, gYield_at, gSeq_at, gIf_at, gLoop_nil, gFor_at, gFrom_at, runG_at, ienum_at, mlistG_at, sat_runL, Res.bind_ok, Res.bind_bad, Res.bind_exc, List.getElem?_cons_zero, List.getElem?_cons_succ, List.getElem?_nil, List.map_cons, List.map_nil, List.cons_append, List.nil_append, List.append_nil, List.length_cons, List.length_nil, List.set_cons_zero, List.set_cons_succ, Option.map_some, Option.map_none, Option.isSome_some, List.replicate_succ, List.replicate_zero, if_true, if_false, reduceIte, Nat.reduceAdd, Nat.reduceSub, Nat.reduceLeDiff, Nat.reduceEqDiff, Nat.reduceLT, Bool.false_eq_true, and_self, and_true, true_and, List.drop_succ_cons, List.drop_zero, List.take_succ_cons, List.take_zero, Nat.zero_add, Nat.add_zero, Bool.not_true, Bool.not_false, Nat.sub_self, Nat.le_refl, Int.reduceLT, Int.reduceNeg, Nat.reducePow, Int.reducePow, Int.reduceToNat, Int.reduceAdd, Int.reduceSub, Int.reduceLE, Int.cast_ofNat_Int, Int.reduceBEq, List.flatten_cons, List.flatten_nil, Nat.reduceMul, Nat.one_mul, Nat.mul_one, Nat.mul_zero, Nat.zero_le, Int.reduceMul, ma]
  rw [x1]
  have w11 : cs.length + 1 + 1 ≤ sizeLine := w2
  have w21 : cs.length + 2 + 1 ≤ sizeLine := w3
  have a1 : Low "use" := low_of (by decide +kernel)
  have a2 : Low "there" := low_there
  have a3 : Low "glob" := low_of (by decide +kernel)
  have a4 : Low "fn" := low_of (by decide +kernel)
  have a5 : Low "ref" := low_of (by decide +kernel)
  have a6 : Low "macro" := low_of (by decide +kernel)
  have a7 : Low "deep" := low_deep
  have a8 : Low "call" := low_of (by decide +kernel)
  have a9 : Upp "B" := upp_B
  simp only [mc_at, mvar_at, mnil_at, mcons_at, mop1_at, mop2_at, mtup_at, mlst_at, mfun_at, mand_at, mor_at, mnot_at, mandT_at, morT_at, mnotT_at, mtru_at, mbl_at, mite_at, mchain_at, mcall_at, mcallN_at, mmeth_at, msl_at, mpart0, mpart1, mdic0_at, iseq_at, irng_at, fin_none, fin_v, fin_newF, fin_newT, resM_some, resM_none, isLst_ref, lstOf_ref, lstOf_lst, seqOf_tup, seqOf_lst, seqOf_ref, seqOf_scr, truth_bl, forLoop_nil, gname_at, gtup_at, gtup_lst, go_nil, go_cons, gstar_at, gsub_at, startE_at, wipeE_nil, wipeE_cons, isi_at, len_at, all_lst, tuple_at, list_at, isN_eq, isN_ne, isN_in, isN_notIn, cmp_int, add_int, sub_int, mod_int, fdiv_int, mul_int, mul_lst, add_lst, add_refL, app_at, join_at, isStr_str, add_tup, add_str, int_bl, int_int, sl_tup, sl_lst, sl_str, pow_int, neg_int, ix_tup, ix_lst, ix_ref, ix_scr, sat_ok, sat_exc, sat_bad, sat_bind, satS_some, satS_none, satO_some, satO_none, toRet_nx, toRet_ret, toRet_exc, sat_run, toSeq_nx, toSeq_ret, toSeq_exc, toSeq_bk, toSeq_ct, satS_seq, satS_pass, satS_brk, satS_cnt, satS_expr, satS_ret, satS_retN, satS_asg, satS_if, satS_for, sat_comp, satS_par2, satS_par3, sat_ite, fin_ite, mdisp_at, mpairs_nil, mpairs_cons, mixd_at, mget2_at, mdict_at, mfz_at, mstar_at, mdzip_at, gQ_at, gYield_at, gSeq_at, gIf_at, gLoop_nil, gFor_at, gFrom_at, runG_at, ienum_at, mlistG_at, sat_runL, Res.bind_ok, Res.bind_bad, Res.bind_exc, List.getElem?_cons_zero, List.getElem?_cons_succ, List.getElem?_nil, List.map_cons, List.map_nil, List.cons_append, List.nil_append, List.append_nil, List.length_cons, List.length_nil, List.set_cons_zero, List.set_cons_succ, Option.map_some, Option.map_none, Option.isSome_some, List.replicate_succ, List.replicate_zero, if_true, if_false, reduceIte, Nat.reduceAdd, Nat.reduceSub, Nat.reduceLeDiff, Nat.reduceEqDiff, Nat.reduceLT, Bool.false_eq_true, and_self, and_true, true_and, List.drop_succ_cons, List.drop_zero, List.take_succ_cons, List.take_zero, Nat.zero_add, Nat.add_zero, Bool.not_true, Bool.not_false, Nat.sub_self, Nat.le_refl, Int.reduceLT, Int.reduceNeg, Nat.reducePow, Int.reducePow, Int.reduceToNat, Int.reduceAdd, Int.reduceSub, Int.reduceLE, Int.cast_ofNat_Int, Int.reduceBEq, List.flatten_cons, List.flatten_nil, Nat.reduceMul, Nat.one_mul, Nat.mul_one, Nat.mul_zero, Nat.zero_le, Int.reduceMul, z1, z2, w1, w2, itemsOf, compLoop, gname_at, yes, entD, at0, at1, at2, at3, List.length_append, List.append_assoc, w11, w21, z6]
  apply sat_ne_same (by (repeat (first | exact PnL.nil | exact Pn.bl | exact Pn.non | assumption | (refine Pn.low ?_; assumption) | (refine Pn.upp ?_; assumption) | exact Pn.int (by decide +kernel) | apply PnL.cons | apply PnL.app | apply Pn.tup | apply Pn.lst))) (by decide)
  simp only [mc_at, mvar_at, mnil_at, mcons_at, mop1_at, mop2_at, mtup_at, mlst_at, mfun_at, mand_at, mor_at, mnot_at, mandT_at, morT_at, mnotT_at, mtru_at, mbl_at, mite_at, mchain_at, mcall_at, mcallN_at, mmeth_at, msl_at, mpart0, mpart1, mdic0_at, iseq_at, irng_at, fin_none, fin_v, fin_newF, fin_newT, resM_some, resM_none, isLst_ref, lstOf_ref, lstOf_lst, seqOf_tup, seqOf_lst, seqOf_ref, seqOf_scr, truth_bl, forLoop_nil, gname_at, gtup_at, gtup_lst, go_nil, go_cons, gstar_at, gsub_at, startE_at, wipeE_nil, wipeE_cons, isi_at, len_at, all_lst, tuple_at, list_at, isN_eq, isN_ne, isN_in, isN_notIn, cmp_int, add_int, sub_int, mod_int, fdiv_int, mul_int, mul_lst, add_lst, add_refL, app_at, join_at, isStr_str, add_tup, add_str, int_bl, int_int, sl_tup, sl_lst, sl_str, pow_int, neg_int, ix_tup, ix_lst, ix_ref, ix_scr, sat_ok, sat_exc, sat_bad, sat_bind, satS_some, satS_none, satO_some, satO_none, toRet_nx, toRet_ret, toRet_exc, sat_run, toSeq_nx, toSeq_ret, toSeq_exc, toSeq_bk, toSeq_ct, satS_seq, satS_pass, satS_brk, satS_cnt, satS_expr, satS_ret, satS_retN, satS_asg, satS_if, satS_for, sat_comp, satS_par2, satS_par3, sat_ite, fin_ite, mdisp_at, mpairs_nil, mpairs_cons, mixd_at, mget2_at, mdict_at, mfz_at, mstar_at, mdzip_at, gQ_at, gYield_at, gSeq_at, gIf_at, gLoop_nil, gFor_at, gFrom_at, runG_at, ienum_at, mlistG_at, sat_runL, Res.bind_ok, Res.bind_bad, Res.bind_exc, List.getElem?_cons_zero, List.getElem?_cons_succ, List.getElem?_nil, List.map_cons, List.map_nil, List.cons_append, List.nil_append, List.append_nil, List.length_cons, List.length_nil, List.set_cons_zero, List.set_cons_succ, Option.map_some, Option.map_none, Option.isSome_some, List.replicate_succ, List.replicate_zero, if_true, if_false, reduceIte, Nat.reduceAdd, Nat.reduceSub, Nat.reduceLeDiff, Nat.reduceEqDiff, Nat.reduceLT, Bool.false_eq_true, and_self, and_true, true_and, List.drop_succ_cons, List.drop_zero, List.take_succ_cons, List.take_zero, Nat.zero_add, Nat.add_zero, Bool.not_true, Bool.not_false, Nat.sub_self, Nat.le_refl, Int.reduceLT, Int.reduceNeg, Nat.reducePow, Int.reducePow, Int.reduceToNat, Int.reduceAdd, Int.reduceSub, Int.reduceLE, Int.cast_ofNat_Int, Int.reduceBEq, List.flatten_cons, List.flatten_nil, Nat.reduceMul, Nat.one_mul, Nat.mul_one, Nat.mul_zero, Nat.zero_le, Int.reduceMul, z1, z2, w1, w2, itemsOf, compLoop, gname_at, yes, entD, at0, at1, at2, at3, List.length_append, List.append_assoc, w11, w21, z6]
  apply sat_ne_same (by (repeat (first | exact PnL.nil | exact Pn.bl | exact Pn.non | assumption | (refine Pn.low ?_; assumption) | (refine Pn.upp ?_; assumption) | exact Pn.int (by decide +kernel) | apply PnL.cons | apply PnL.app | apply Pn.tup | apply Pn.lst))) (by decide)
  simp only [mc_at, mvar_at, mnil_at, mcons_at, mop1_at, mop2_at, mtup_at, mlst_at, mfun_at, mand_at, mor_at, mnot_at, mandT_at, morT_at, mnotT_at, mtru_at, mbl_at, mite_at, mchain_at, mcall_at, mcallN_at, mmeth_at, msl_at, mpart0, mpart1, mdic0_at, iseq_at, irng_at, fin_none, fin_v, fin_newF, fin_newT, resM_some, resM_none, isLst_ref, lstOf_ref, lstOf_lst, seqOf_tup, seqOf_lst, seqOf_ref, seqOf_scr, truth_bl, forLoop_nil, gname_at, gtup_at, gtup_lst, go_nil, go_cons, gstar_at, gsub_at, startE_at, wipeE_nil, wipeE_cons, isi_at, len_at, all_lst, tuple_at, list_at, isN_eq, isN_ne, isN_in, isN_notIn, cmp_int, add_int, sub_int, mod_int, fdiv_int, mul_int, mul_lst, add_lst, add_refL, app_at, join_at, isStr_str, add_tup, add_str, int_bl, int_int, sl_tup, sl_lst, sl_str, pow_int, neg_int, ix_tup, ix_lst, ix_ref, ix_scr, sat_ok, sat_exc, sat_bad, sat_bind, satS_some, satS_none, satO_some, satO_none, toRet_nx, toRet_ret, toRet_exc, sat_run, toSeq_nx, toSeq_ret, toSeq_exc, toSeq_bk, toSeq_ct, satS_seq, satS_pass, satS_brk, satS_cnt, satS_expr, satS_ret, satS_retN, satS_asg, satS_if, satS_for, sat_comp, satS_par2, satS_par3, sat_ite, fin_ite, mdisp_at, mpairs_nil, mpairs_cons, mixd_at, mget2_at, mdict_at, mfz_at, mstar_at, mdzip_at, gQ_at, gYield_at, gSeq_at, gIf_at, gLoop_nil, gFor_at, gFrom_at, runG_at, ienum_at, mlistG_at, sat_runL, Res.bind_ok, Res.bind_bad, Res.bind_exc, List.getElem?_cons_zero, List.getElem?_cons_succ, List.getElem?_nil, List.map_cons, List.map_nil, List.cons_append, List.nil_append, List.append_nil, List.length_cons, List.length_nil, List.set_cons_zero, List.set_cons_succ, Option.map_some, Option.map_none, Option.isSome_some, List.replicate_succ, List.replicate_zero, if_true, if_false, reduceIte, Nat.reduceAdd, Nat.reduceSub, Nat.reduceLeDiff, Nat.reduceEqDiff, Nat.reduceLT, Bool.false_eq_true, and_self, and_true, true_and, List.drop_succ_cons, List.drop_zero, List.take_succ_cons, List.take_zero, Nat.zero_add, Nat.add_zero, Bool.not_true, Bool.not_false, Nat.sub_self, Nat.le_refl, Int.reduceLT, Int.reduceNeg, Nat.reducePow, Int.reducePow, Int.reduceToNat, Int.reduceAdd, Int.reduceSub, Int.reduceLE, Int.cast_ofNat_Int, Int.reduceBEq, List.flatten_cons, List.flatten_nil, Nat.reduceMul, Nat.one_mul, Nat.mul_one, Nat.mul_zero, Nat.zero_le, Int.reduceMul, z1, z2, w1, w2, itemsOf, compLoop, gname_at, yes, entD, at0, at1, at2, at3, List.length_append, List.append_assoc, w11, w21, z6]
  apply sat_ne_same (by (repeat (first | exact PnL.nil | exact Pn.bl | exact Pn.non | assumption | (refine Pn.low ?_; assumption) | (refine Pn.upp ?_; assumption) | exact Pn.int (by decide +kernel) | apply PnL.cons | apply PnL.app | apply Pn.tup | apply Pn.lst))) (by decide)
  simp only [mc_at, mvar_at, mnil_at, mcons_at, mop1_at, mop2_at, mtup_at, mlst_at, mfun_at, mand_at, mor_at, mnot_at, mandT_at, morT_at, mnotT_at, mtru_at, mbl_at, mite_at, mchain_at, mcall_at, mcallN_at, mmeth_at, msl_at, mpart0, mpart1, mdic0_at, iseq_at, irng_at, fin_none, fin_v, fin_newF, fin_newT, resM_some, resM_none, isLst_ref, lstOf_ref, lstOf_lst, seqOf_tup, seqOf_lst, seqOf_ref, seqOf_scr, truth_bl, forLoop_nil, gname_at, gtup_at, gtup_lst, go_nil, go_cons, gstar_at, gsub_at, startE_at, wipeE_nil, wipeE_cons, isi_at, len_at, all_lst, tuple_at, list_at, isN_eq, isN_ne, isN_in, isN_notIn, cmp_int, add_int, sub_int, mod_int, fdiv_int, mul_int, mul_lst, add_lst, add_refL, app_at, join_at, isStr_str, add_tup, add_str, int_bl, int_int, sl_tup, sl_lst, sl_str, pow_int, neg_int, ix_tup, ix_lst, ix_ref, ix_scr, sat_ok, sat_exc, sat_bad, sat_bind, satS_some, satS_none, satO_some, satO_none, toRet_nx, toRet_ret, toRet_exc, sat_run, toSeq_nx, toSeq_ret, toSeq_exc, toSeq_bk, toSeq_ct, satS_seq, satS_pass, satS_brk, satS_cnt, satS_expr, satS_ret, satS_retN, satS_asg, satS_if, satS_for, sat_comp, satS_par2, satS_par3, sat_ite, fin_ite, mdisp_at, mpairs_nil, mpairs_cons, mixd_at, mget2_at, mdict_at, mfz_at, mstar_at, mdzip_at, gQ_at, gYield_at, gSeq_at, gIf_at, gLoop_nil, gFor_at, gFrom_at, runG_at, ienum_at, mlistG_at, sat_runL, Res.bind_ok, Res.bind_bad, Res.bind_exc, List.getElem?_cons_zero, List.getElem?_cons_succ, List.getElem?_nil, List.map_cons, List.map_nil, List.cons_append, List.nil_append, List.append_nil, List.length_cons, List.length_nil, List.set_cons_zero, List.set_cons_succ, Option.map_some, Option.map_none, Option.isSome_some, List.replicate_succ, List.replicate_zero, if_true, if_false, reduceIte, Nat.reduceAdd, Nat.reduceSub, Nat.reduceLeDiff, Nat.reduceEqDiff, Nat.reduceLT, Bool.false_eq_true, and_self, and_true, true_and, List.drop_succ_cons, List.drop_zero, List.take_succ_cons, List.take_zero, Nat.zero_add, Nat.add_zero, Bool.not_true, Bool.not_false, Nat.sub_self, Nat.le_refl, Int.reduceLT, Int.reduceNeg, Nat.reducePow, Int.reducePow, Int.reduceToNat, Int.reduceAdd, Int.reduceSub, Int.reduceLE, Int.cast_ofNat_Int, Int.reduceBEq, List.flatten_cons, List.flatten_nil, Nat.reduceMul, Nat.one_mul, Nat.mul_one, Nat.mul_zero, Nat.zero_le, Int.reduceMul, z1, z2, w1, w2, itemsOf, compLoop, gname_at, yes, entD, at0, at1, at2, at3, List.length_append, List.append_assoc, w11, w21, z6]
  apply sat_ne_same (by (repeat (first | exact PnL.nil | exact Pn.bl | exact Pn.non | assumption | (refine Pn.low ?_; assumption) | (refine Pn.upp ?_; assumption) | exact Pn.int (by decide +kernel) | apply PnL.cons | apply PnL.app | apply Pn.tup | apply Pn.lst))) (by decide)
  simp only [mc_at, mvar_at, mnil_at, mcons_at, mop1_at, mop2_at, mtup_at, mlst_at, mfun_at, mand_at, mor_at, mnot_at, mandT_at, morT_at, mnotT_at, mtru_at, mbl_at, mite_at, mchain_at, mcall_at, mcallN_at, mmeth_at, msl_at, mpart0, mpart1, mdic0_at, iseq_at, irng_at, fin_none, fin_v, fin_newF, fin_newT, resM_some, resM_none, isLst_ref, lstOf_ref, lstOf_lst, seqOf_tup, seqOf_lst, seqOf_ref, seqOf_scr, truth_bl, forLoop_nil, gname_at, gtup_at, gtup_lst, go_nil, go_cons, gstar_at, gsub_at, startE_at, wipeE_nil, wipeE_cons, isi_at, len_at, all_lst, tuple_at, list_at, isN_eq, isN_ne, isN_in, isN_notIn, cmp_int, add_int, sub_int, mod_int, fdiv_int, mul_int, mul_lst, add_lst, add_refL, app_at, join_at, isStr_str, add_tup, add_str, int_bl, int_int, sl_tup, sl_lst, sl_str, pow_int, neg_int, ix_tup, ix_lst, ix_ref, ix_scr, sat_ok, sat_exc, sat_bad, sat_bind, satS_some, satS_none, satO_some, satO_none, toRet_nx, toRet_ret, toRet_exc, sat_run, toSeq_nx, toSeq_ret, toSeq_exc, toSeq_bk, toSeq_ct, satS_seq, satS_pass, satS_brk, satS_cnt, satS_expr, satS_ret, satS_retN, satS_asg, satS_if, satS_for, sat_comp, satS_par2, satS_par3, sat_ite, fin_ite, mdisp_at, mpairs_nil, mpairs_cons, mixd_at, mget2_at, mdict_at, mfz_at, mstar_at, mdzip_at, gQ_at, gYield_at, gSeq_at, gIf_at, gLoop_nil, gFor_at, gFrom_at, runG_at, ienum_at, mlistG_at, sat_runL, Res.bind_ok, Res.bind_bad, Res.bind_exc, List.getElem?_cons_zero, List.getElem?_cons_succ, List.getElem?_nil, List.map_cons, List.map_nil, List.cons_append, List.nil_append, List.append_nil, List.length_cons, List.length_nil, List.set_cons_zero, List.set_cons_succ, Option.map_some, Option.map_none, Option.isSome_some, List.replicate_succ, List.replicate_zero, if_true, if_false, reduceIte, Nat.reduceAdd, Nat.reduceSub, Nat.reduceLeDiff, Nat.reduceEqDiff, Nat.reduceLT, Bool.false_eq_true, and_self, and_true, true_and, List.drop_succ_cons, List.drop_zero, List.take_succ_cons, List.take_zero, Nat.zero_add, Nat.add_zero, Bool.not_true, Bool.not_false, Nat.sub_self, Nat.le_refl, Int.reduceLT, Int.reduceNeg, Nat.reducePow, Int.reducePow, Int.reduceToNat, Int.reduceAdd, Int.reduceSub, Int.reduceLE, Int.cast_ofNat_Int, Int.reduceBEq, List.flatten_cons, List.flatten_nil, Nat.reduceMul, Nat.one_mul, Nat.mul_one, Nat.mul_zero, Nat.zero_le, Int.reduceMul, z1, z2, z3, z4, at0, at1, at2, at3]
  apply sat_ne_same (by (repeat (first | exact PnL.nil | exact Pn.bl | exact Pn.non | assumption | (refine Pn.low ?_; assumption) | (refine Pn.upp ?_; assumption) | exact Pn.int (by decide +kernel) | apply PnL.cons | apply PnL.app | apply Pn.tup | apply Pn.lst))) (by decide)
  simp only [mc_at, mvar_at, mnil_at, mcons_at, mop1_at, mop2_at, mtup_at, mlst_at, mfun_at, mand_at, mor_at, mnot_at, mandT_at, morT_at, mnotT_at, mtru_at, mbl_at, mite_at, mchain_at, mcall_at, mcallN_at, mmeth_at, msl_at, mpart0, mpart1, mdic0_at, iseq_at, irng_at, fin_none, fin_v, fin_newF, fin_newT, resM_some, resM_none, isLst_ref, lstOf_ref, lstOf_lst, seqOf_tup, seqOf_lst, seqOf_ref, seqOf_scr, truth_bl, forLoop_nil, gname_at, gtup_at, gtup_lst, go_nil, go_cons, gstar_at, gsub_at, startE_at, wipeE_nil, wipeE_cons, isi_at, len_at, all_lst, tuple_at, list_at, isN_eq, isN_ne, isN_in, isN_notIn, cmp_int, add_int, sub_int, mod_int, fdiv_int, mul_int, mul_lst, add_lst, add_refL, app_at, join_at, isStr_str, add_tup, add_str, int_bl, int_int, sl_tup, sl_lst, sl_str, pow_int, neg_int, ix_tup, ix_lst, ix_ref, ix_scr, sat_ok, sat_exc, sat_bad, sat_bind, satS_some, satS_none, satO_some, satO_none, toRet_nx, toRet_ret, toRet_exc, sat_run, toSeq_nx, toSeq_ret, toSeq_exc, toSeq_bk, toSeq_ct, satS_seq, satS_pass, satS_brk, satS_cnt, satS_expr, satS_ret, satS_retN, satS_asg, satS_if, satS_for, sat_comp, satS_par2, satS_par3, sat_ite, fin_ite, mdisp_at, mpairs_nil, mpairs_cons, mixd_at, mget2_at, mdict_at, mfz_at, mstar_at, mdzip_at, gQ_at, gYield_at, gSeq_at, gIf_at, gLoop_nil, gFor_at, gFrom_at, runG_at, ienum_at, mlistG_at, sat_runL, Res.bind_ok, Res.bind_bad, Res.bind_exc, List.getElem?_cons_zero, List.getElem?_cons_succ, List.getElem?_nil, List.map_cons, List.map_nil, List.cons_append, List.nil_append, List.append_nil, List.length_cons, List.length_nil, List.set_cons_zero, List.set_cons_succ, Option.map_some, Option.map_none, Option.isSome_some, List.replicate_succ, List.replicate_zero, if_true, if_false, reduceIte, Nat.reduceAdd, Nat.reduceSub, Nat.reduceLeDiff, Nat.reduceEqDiff, Nat.reduceLT, Bool.false_eq_true, and_self, and_true, true_and, List.drop_succ_cons, List.drop_zero, List.take_succ_cons, List.take_zero, Nat.zero_add, Nat.add_zero, Bool.not_true, Bool.not_false, Nat.sub_self, Nat.le_refl, Int.reduceLT, Int.reduceNeg, Nat.reducePow, Int.reducePow, Int.reduceToNat, Int.reduceAdd, Int.reduceSub, Int.reduceLE, Int.cast_ofNat_Int, Int.reduceBEq, List.flatten_cons, List.flatten_nil, Nat.reduceMul, Nat.one_mul, Nat.mul_one, Nat.mul_zero, Nat.zero_le, Int.reduceMul, z1, z2, z3, z4, at0, at1, at2, at3, at4, at5]
  apply sat_ne_same (by (repeat (first | exact PnL.nil | exact Pn.bl | exact Pn.non | assumption | (refine Pn.low ?_; assumption) | (refine Pn.upp ?_; assumption) | exact Pn.int (by decide +kernel) | apply PnL.cons | apply PnL.app | apply Pn.tup | apply Pn.lst))) (by decide)
  simp only [mc_at, mvar_at, mnil_at, mcons_at, mop1_at, mop2_at, mtup_at, mlst_at, mfun_at, mand_at, mor_at, mnot_at, mandT_at, morT_at, mnotT_at, mtru_at, mbl_at, mite_at, mchain_at, mcall_at, mcallN_at, mmeth_at, msl_at, mpart0, mpart1, mdic0_at, iseq_at, irng_at, fin_none, fin_v, fin_newF, fin_newT, resM_some, resM_none, isLst_ref, lstOf_ref, lstOf_lst, seqOf_tup, seqOf_lst, seqOf_ref, seqOf_scr, truth_bl, forLoop_nil, gname_at, gtup_at, gtup_lst, go_nil, go_cons, gstar_at, gsub_at, startE_at, wipeE_nil, wipeE_cons, isi_at, len_at, all_lst, tuple_at, list_at, isN_eq, isN_ne, isN_in, isN_notIn, cmp_int, add_int, sub_int, mod_int, fdiv_int, mul_int, mul_lst, add_lst, add_refL, app_at, join_at, isStr_str, add_tup, add_str, int_bl, int_int, sl_tup, sl_lst, sl_str, pow_int, neg_int, ix_tup, ix_lst, ix_ref, ix_scr, sat_ok, sat_exc, sat_bad, sat_bind, satS_some, satS_none, satO_some, satO_none, toRet_nx, toRet_ret, toRet_exc, sat_run, toSeq_nx, toSeq_ret, toSeq_exc, toSeq_bk, toSeq_ct, satS_seq, satS_pass, satS_brk, satS_cnt, satS_expr, satS_ret, satS_retN, satS_asg, satS_if, satS_for, sat_comp, satS_par2, satS_par3, sat_ite, fin_ite, mdisp_at, mpairs_nil, mpairs_cons, mixd_at, mget2_at, mdict_at, mfz_at, mstar_at, mdzip_at, gQ_at, gYield_at, gSeq_at, gIf_at, gLoop_nil, gFor_at, gFrom_at, runG_at, ienum_at, mlistG_at, sat_runL, Res.bind_ok, Res.bind_bad, Res.bind_exc, List.getElem?_cons_zero, List.getElem?_cons_succ, List.getElem?_nil, List.map_cons, List.map_nil, List.cons_append, List.nil_append, List.append_nil, List.length_cons, List.length_nil, List.set_cons_zero, List.set_cons_succ, Option.map_some, Option.map_none, Option.isSome_some, List.replicate_succ, List.replicate_zero, if_true, if_false, reduceIte, Nat.reduceAdd, Nat.reduceSub, Nat.reduceLeDiff, Nat.reduceEqDiff, Nat.reduceLT, Bool.false_eq_true, and_self, and_true, true_and, List.drop_succ_cons, List.drop_zero, List.take_succ_cons, List.take_zero, Nat.zero_add, Nat.add_zero, Bool.not_true, Bool.not_false, Nat.sub_self, Nat.le_refl, Int.reduceLT, Int.reduceNeg, Nat.reducePow, Int.reducePow, Int.reduceToNat, Int.reduceAdd, Int.reduceSub, Int.reduceLE, Int.cast_ofNat_Int, Int.reduceBEq, List.flatten_cons, List.flatten_nil, Nat.reduceMul, Nat.one_mul, Nat.mul_one, Nat.mul_zero, Nat.zero_le, Int.reduceMul, z1, z2, z3, z4, at0, at1, at2, at3, at4, at5]
  apply sat_ne_same (by (repeat (first | exact PnL.nil | exact Pn.bl | exact Pn.non | assumption | (refine Pn.low ?_; assumption) | (refine Pn.upp ?_; assumption) | exact Pn.int (by decide +kernel) | apply PnL.cons | apply PnL.app | apply Pn.tup | apply Pn.lst))) (by decide)
  simp only [mc_at, mvar_at, mnil_at, mcons_at, mop1_at, mop2_at, mtup_at, mlst_at, mfun_at, mand_at, mor_at, mnot_at, mandT_at, morT_at, mnotT_at, mtru_at, mbl_at, mite_at, mchain_at, mcall_at, mcallN_at, mmeth_at, msl_at, mpart0, mpart1, mdic0_at, iseq_at, irng_at, fin_none, fin_v, fin_newF, fin_newT, resM_some, resM_none, isLst_ref, lstOf_ref, lstOf_lst, seqOf_tup, seqOf_lst, seqOf_ref, seqOf_scr, truth_bl, forLoop_nil, gname_at, gtup_at, gtup_lst, go_nil, go_cons, gstar_at, gsub_at, startE_at, wipeE_nil, wipeE_cons, isi_at, len_at, all_lst, tuple_at, list_at, isN_eq, isN_ne, isN_in, isN_notIn, cmp_int, add_int, sub_int, mod_int, fdiv_int, mul_int, mul_lst, add_lst, add_refL, app_at, join_at, isStr_str, add_tup, add_str, int_bl, int_int, sl_tup, sl_lst, sl_str, pow_int, neg_int, ix_tup, ix_lst, ix_ref, ix_scr, sat_ok, sat_exc, sat_bad, sat_bind, satS_some, satS_none, satO_some, satO_none, toRet_nx, toRet_ret, toRet_exc, sat_run, toSeq_nx, toSeq_ret, toSeq_exc, toSeq_bk, toSeq_ct, satS_seq, satS_pass, satS_brk, satS_cnt, satS_expr, satS_ret, satS_retN, satS_asg, satS_if, satS_for, sat_comp, satS_par2, satS_par3, sat_ite, fin_ite, mdisp_at, mpairs_nil, mpairs_cons, mixd_at, mget2_at, mdict_at, mfz_at, mstar_at, mdzip_at, gQ_at, gYield_at, gSeq_at, gIf_at, gLoop_nil, gFor_at, gFrom_at, runG_at, ienum_at, mlistG_at, sat_runL, Res.bind_ok, Res.bind_bad, Res.bind_exc, List.getElem?_cons_zero, List.getElem?_cons_succ, List.getElem?_nil, List.map_cons, List.map_nil, List.cons_append, List.nil_append, List.append_nil, List.length_cons, List.length_nil, List.set_cons_zero, List.set_cons_succ, Option.map_some, Option.map_none, Option.isSome_some, List.replicate_succ, List.replicate_zero, if_true, if_false, reduceIte, Nat.reduceAdd, Nat.reduceSub, Nat.reduceLeDiff, Nat.reduceEqDiff, Nat.reduceLT, Bool.false_eq_true, and_self, and_true, true_and, List.drop_succ_cons, List.drop_zero, List.take_succ_cons, List.take_zero, Nat.zero_add, Nat.add_zero, Bool.not_true, Bool.not_false, Nat.sub_self, Nat.le_refl, Int.reduceLT, Int.reduceNeg, Nat.reducePow, Int.reducePow, Int.reduceToNat, Int.reduceAdd, Int.reduceSub, Int.reduceLE, Int.cast_ofNat_Int, Int.reduceBEq, List.flatten_cons, List.flatten_nil, Nat.reduceMul, Nat.one_mul, Nat.mul_one, Nat.mul_zero, Nat.zero_le, Int.reduceMul, z1, z2, z3, z4, z5, at0, at1, at2, at3, at4, at5]
  rw [lines_at]
  apply sat_ne_same (by (repeat (first | exact PnL.nil | exact Pn.bl | exact Pn.non | assumption | (refine Pn.low ?_; assumption) | (refine Pn.upp ?_; assumption) | exact Pn.int (by decide +kernel) | apply PnL.cons | apply PnL.app | apply Pn.tup | apply Pn.lst))) (by decide)
  simp only [mc_at, mvar_at, mnil_at, mcons_at, mop1_at, mop2_at, mtup_at, mlst_at, mfun_at, mand_at, mor_at, mnot_at, mandT_at, morT_at, mnotT_at, mtru_at, mbl_at, mite_at, mchain_at, mcall_at, mcallN_at, mmeth_at, msl_at, mpart0, mpart1, mdic0_at, iseq_at, irng_at, fin_none, fin_v, fin_newF, fin_newT, resM_some, resM_none, isLst_ref, lstOf_ref, lstOf_lst, seqOf_tup, seqOf_lst, seqOf_ref, seqOf_scr, truth_bl, forLoop_nil, gname_at, gtup_at, gtup_lst, go_nil, go_cons, gstar_at, gsub_at, startE_at, wipeE_nil, wipeE_cons, isi_at, len_at, all_lst, tuple_at, list_at, isN_eq, isN_ne, isN_in, isN_notIn, cmp_int, add_int, sub_int, mod_int, fdiv_int, mul_int, mul_lst, add_lst, add_refL, app_at, join_at, isStr_str, add_tup, add_str, int_bl, int_int, sl_tup, sl_lst, sl_str, pow_int, neg_int, ix_tup, ix_lst, ix_ref, ix_scr, sat_ok, sat_exc, sat_bad, sat_bind, satS_some, satS_none, satO_some, satO_none, toRet_nx, toRet_ret, toRet_exc, sat_run, toSeq_nx, toSeq_ret, toSeq_exc, toSeq_bk, toSeq_ct, satS_seq, satS_pass, satS_brk, satS_cnt, satS_expr, satS_ret, satS_retN, satS_asg, satS_if, satS_for, sat_comp, satS_par2, satS_par3, sat_ite, fin_ite, mdisp_at, mpairs_nil, mpairs_cons, mixd_at, mget2_at, mdict_at, mfz_at, mstar_at, mdzip_at, gQ_at, gYield_at, gSeq_at, gIf_at, gLoop_nil, gFor_at, gFrom_at, runG_at, ienum_at, mlistG_at, sat_runL, Res.bind_ok, Res.bind_bad, Res.bind_exc, List.getElem?_cons_zero, List.getElem?_cons_succ, List.getElem?_nil, List.map_cons, List.map_nil, List.cons_append, List.nil_append, List.append_nil, List.length_cons, List.length_nil, List.set_cons_zero, List.set_cons_succ, Option.map_some, Option.map_none, Option.isSome_some, List.replicate_succ, List.replicate_zero, if_true, if_false, reduceIte, Nat.reduceAdd, Nat.reduceSub, Nat.reduceLeDiff, Nat.reduceEqDiff, Nat.reduceLT, Bool.false_eq_true, and_self, and_true, true_and, List.drop_succ_cons, List.drop_zero, List.take_succ_cons, List.take_zero, Nat.zero_add, Nat.add_zero, Bool.not_true, Bool.not_false, Nat.sub_self, Nat.le_refl, Int.reduceLT, Int.reduceNeg, Nat.reducePow, Int.reducePow, Int.reduceToNat, Int.reduceAdd, Int.reduceSub, Int.reduceLE, Int.cast_ofNat_Int, Int.reduceBEq, List.flatten_cons, List.flatten_nil, Nat.reduceMul, Nat.one_mul, Nat.mul_one, Nat.mul_zero, Nat.zero_le, Int.reduceMul, z1, z2, z3, z4, z5, at0, at1, at2, at3, at4, at5, w4]
  have g1 : ∀ x : MO, (h2 ++ [x])[h2.length]? = some x := fun x => List.getElem?_concat_length
  have g2 : ∀ x y : MO, ((h2 ++ [x]).set h2.length y)[h2.length]? = some y := fun x y => List.getElem?_set_self (by simp)
  have w5 : 1 < sizeLine := z2
  simp only [mc_at, mvar_at, mnil_at, mcons_at, mop1_at, mop2_at, mtup_at, mlst_at, mfun_at, mand_at, mor_at, mnot_at, mandT_at, morT_at, mnotT_at, mtru_at, mbl_at, mite_at, mchain_at, mcall_at, mcallN_at, mmeth_at, msl_at, mpart0, mpart1, mdic0_at, iseq_at, irng_at, fin_none, fin_v, fin_newF, fin_newT, resM_some, resM_none, isLst_ref, lstOf_ref, lstOf_lst, seqOf_tup, seqOf_lst, seqOf_ref, seqOf_scr, truth_bl, forLoop_nil, gname_at, gtup_at, gtup_lst, go_nil, go_cons, gstar_at, gsub_at, startE_at, wipeE_nil, wipeE_cons, isi_at, len_at, all_lst, tuple_at, list_at, isN_eq, isN_ne, isN_in, isN_notIn, cmp_int, add_int, sub_int, mod_int, fdiv_int, mul_int, mul_lst, add_lst, add_refL, app_at, join_at, isStr_str, add_tup, add_str, int_bl, int_int, sl_tup, sl_lst, sl_str, pow_int, neg_int, ix_tup, ix_lst, ix_ref, ix_scr, sat_ok, sat_exc, sat_bad, sat_bind, satS_some, satS_none, satO_some, satO_none, toRet_nx, toRet_ret, toRet_exc, sat_run, toSeq_nx, toSeq_ret, toSeq_exc, toSeq_bk, toSeq_ct, satS_seq, satS_pass, satS_brk, satS_cnt, satS_expr, satS_ret, satS_retN, satS_asg, satS_if, satS_for, sat_comp, satS_par2, satS_par3, sat_ite, fin_ite, mdisp_at, mpairs_nil, mpairs_cons, mixd_at, mget2_at, mdict_at, mfz_at, mstar_at, mdzip_at, gQ_at, gYield_at, gSeq_at, gIf_at, gLoop_nil, gFor_at, gFrom_at, runG_at, ienum_at, mlistG_at, sat_runL, Res.bind_ok, Res.bind_bad, Res.bind_exc, List.getElem?_cons_zero, List.getElem?_cons_succ, List.getElem?_nil, List.map_cons, List.map_nil, List.cons_append, List.nil_append, List.append_nil, List.length_cons, List.length_nil, List.set_cons_zero, List.set_cons_succ, Option.map_some, Option.map_none, Option.isSome_some, List.replicate_succ, List.replicate_zero, if_true, if_false, reduceIte, Nat.reduceAdd, Nat.reduceSub, Nat.reduceLeDiff, Nat.reduceEqDiff, Nat.reduceLT, Bool.false_eq_true, and_self, and_true, true_and, List.drop_succ_cons, List.drop_zero, List.take_succ_cons, List.take_zero, Nat.zero_add, Nat.add_zero, Bool.not_true, Bool.not_false, Nat.sub_self, Nat.le_refl, Int.reduceLT, Int.reduceNeg, Nat.reducePow, Int.reducePow, Int.reduceToNat, Int.reduceAdd, Int.reduceSub, Int.reduceLE, Int.cast_ofNat_Int, Int.reduceBEq, List.flatten_cons, List.flatten_nil, Nat.reduceMul, Nat.one_mul, Nat.mul_one, Nat.mul_zero, Nat.zero_le, Int.reduceMul, z1, z2, z3, z4, z5, w4, w5, g1, g2, at0, at1, at2, at3]
  rw [show D.tup ((lines three "B" two).map It.d) = _ from lines_at three "B" two] at x2
  rw [x2]
  obtain ⟨z, ez⟩ : ∃ z : Str, ∀ hh, fReprA [.lst [entD (ls ++ [.int 0]) (.tup cs) (.tup (cs ++ [.int 0, .int 1])) (.tup [.str "use", .str four, .tup [.str "there", .str three, .str four], .bl false]),
      entD (ls ++ [.int 1]) (.tup cs) (.tup (cs ++ [.int 0, .int 1])) (.tup [.str "call", .tup [.str "there", .str two], .tup [.str three, .str four]])]] hh = some (.v (.str z)) := by
    unfold entD
    apply PnL.repr (by (repeat (first | exact PnL.nil | exact Pn.bl | exact Pn.non | assumption | (refine Pn.low ?_; assumption) | (refine Pn.upp ?_; assumption) | exact Pn.int (by decide +kernel) | apply PnL.cons | apply PnL.app | apply Pn.tup | apply Pn.lst))) (by decide) (by decide)
  have er := repr_ref (g2 (MO.lst [D.tup [D.tup (ls ++ [D.int 0]), D.tup cs, D.tup (cs ++ [D.int 0, D.int 1]), D.tup [D.str "use", D.str four, D.tup [D.str "there", D.str three, D.str four], D.bl false]]]) (MO.lst [D.tup [D.tup (ls ++ [D.int 0]), D.tup cs, D.tup (cs ++ [D.int 0, D.int 1]), D.tup [D.str "use", D.str four, D.tup [D.str "there", D.str three, D.str four], D.bl false]],
      D.tup [D.tup (ls ++ [D.int 1]), D.tup cs, D.tup (cs ++ [D.int 0, D.int 1]), D.tup [D.str "call", D.tup [D.str "there", D.str two], D.tup [D.str three, D.str four]]]]))
  unfold entD at ez
  simp only [sat_ok, entD, ez, er, fin_v, eqv, beq_self_eq_true, Option.map_some]
  exact k _
theorem list_of {α : Type} {g : α → D} {P : α → Prop} : ∀ {ys : List D}, (∀ y ∈ ys, ∃ t, y = g t ∧ P t) → ∃ ts : List α, ys = ts.map g ∧ (∀ t ∈ ts, P t) ∧ ts.length = ys.length
  | [], _ => ⟨[], rfl, (fun _ z => nomatch z), rfl⟩
  | y :: ys, h => by
    obtain ⟨t, rfl, ht⟩ := h y List.mem_cons_self
    obtain ⟨ts, rfl, a, l⟩ := list_of fun y hy => h y (List.mem_cons_of_mem _ hy)
    refine ⟨t :: ts, rfl, fun x hx => ?_, by simp⟩
    rcases List.mem_cons.mp hx with rfl | hx
    · exact ht
    · exact a x hx
theorem at_all {ys : List D} {P : D → Prop} (hp : ∀ (k : Nat) (y : D), ys[k]? = some y → P y) : ∀ y ∈ ys, P y := fun y hy => by
  obtain ⟨j, hj⟩ := List.getElem?_of_mem hy
  exact hp j y hj
theorem law_true (ns : List Int) (hl : ns.length ≤ 63) : ∃ h, F_law [.scr ns] [] = .ok (.bl true) h := by
  have key : Sat (F_law [.scr ns] []) (fun y _ => y = .bl true) fun _ _ => False := by
    obtain ⟨c, hc, c5⟩ : ∃ c : Nat, (if (if (6 : Int) < ((ns.length : Nat) : Int) then (6 : Int) else ((ns.length : Nat) : Int)) > 1 then (if (6 : Int) < ((ns.length : Nat) : Int) then (6 : Int) else ((ns.length : Nat) : Int)) else 1) = (c : Int) ∧ c ≤ 6 := by
      by_cases h1 : (6 : Int) < ((ns.length : Nat) : Int)
      · exact ⟨6, by rw [if_pos h1]; rfl, Nat.le_refl _⟩
      · rw [if_neg h1]
        by_cases h2 : ((ns.length : Nat) : Int) > 1
        · exact ⟨ns.length, by rw [if_pos h2], by omega⟩
        · exact ⟨1, by rw [if_neg h2]; rfl, by decide⟩
    simp only [F_law, m_law, mc_at, mvar_at, mnil_at, mcons_at, mop1_at, mop2_at, mtup_at, mlst_at, mfun_at, mand_at, mor_at, mnot_at, mandT_at, morT_at, mnotT_at, mtru_at, mbl_at, mite_at, mchain_at, mcall_at, mcallN_at, mmeth_at, msl_at, mpart0, mpart1, mdic0_at, iseq_at, irng_at, fin_none, fin_v, fin_newF, fin_newT, resM_some, resM_none, isLst_ref, lstOf_ref, lstOf_lst, seqOf_tup, seqOf_lst, seqOf_ref, seqOf_scr, truth_bl, forLoop_nil, gname_at, gtup_at, gtup_lst, go_nil, go_cons, gstar_at, gsub_at, startE_at, wipeE_nil, wipeE_cons, isi_at, len_at, all_lst, tuple_at, list_at, isN_eq, isN_ne, isN_in, isN_notIn, cmp_int, add_int, sub_int, mod_int, fdiv_int, mul_int, mul_lst, add_lst, add_refL, app_at, join_at, isStr_str, add_tup, add_str, int_bl, int_int, sl_tup, sl_lst, sl_str, pow_int, neg_int, ix_tup, ix_lst, ix_ref, ix_scr, sat_ok, sat_exc, sat_bad, sat_bind, satS_some, satS_none, satO_some, satO_none, toRet_nx, toRet_ret, toRet_exc, sat_run, toSeq_nx, toSeq_ret, toSeq_exc, toSeq_bk, toSeq_ct, satS_seq, satS_pass, satS_brk, satS_cnt, satS_expr, satS_ret, satS_retN, satS_asg, satS_if, satS_for, sat_comp, satS_par2, satS_par3, sat_ite, fin_ite, mdisp_at, mpairs_nil, mpairs_cons, mixd_at, mget2_at, mdict_at, mfz_at, mstar_at, mdzip_at, gQ_at, gYield_at, gSeq_at, gIf_at, gLoop_nil, gFor_at, gFrom_at, runG_at, ienum_at, mlistG_at, sat_runL, Res.bind_ok, Res.bind_bad, Res.bind_exc, List.getElem?_cons_zero, List.getElem?_cons_succ, List.getElem?_nil, List.map_cons, List.map_nil, List.cons_append, List.nil_append, List.append_nil, List.length_cons, List.length_nil, List.set_cons_zero, List.set_cons_succ, Option.map_some, Option.map_none, Option.isSome_some, List.replicate_succ, List.replicate_zero, if_true, if_false, reduceIte, Nat.reduceAdd, Nat.reduceSub, Nat.reduceLeDiff, Nat.reduceEqDiff, Nat.reduceLT, Bool.false_eq_true, and_self, and_true, true_and, List.drop_succ_cons, List.drop_zero, List.take_succ_cons, List.take_zero, Nat.zero_add, Nat.add_zero, Bool.not_true, Bool.not_false, Nat.sub_self, Nat.le_refl, Int.reduceLT, Int.reduceNeg, Nat.reducePow, Int.reducePow, Int.reduceToNat, Int.reduceAdd, Int.reduceSub, Int.reduceLE, Int.cast_ofNat_Int, Int.reduceBEq, List.flatten_cons, List.flatten_nil, Nat.reduceMul, Nat.one_mul, Nat.mul_one, Nat.mul_zero, Nat.zero_le, Int.reduceMul, lenOf, fMin, fMax, List.length_map, hc, range_ok (n := c) (by omega)]
    refine comp_sat (J := fun _ _ => True) (P := fun _ y => y = .bl true) trivial (fun j x h hx _ => ?_) fun ys h hl hp _ => ?_
    · have hj : j < c := by
        have := (List.getElem?_eq_some_iff.mp hx).1
        simpa using this
      obtain rfl : x = .int ((j : Nat) : Int) := by
        rw [List.getElem?_map, List.getElem?_range hj] at hx
        exact (Option.some.inj hx).symm
      obtain ⟨a, b, e, ha⟩ := rng_new ns j (by omega) h
      simp only [mc_at, mvar_at, mnil_at, mcons_at, mop1_at, mop2_at, mtup_at, mlst_at, mfun_at, mand_at, mor_at, mnot_at, mandT_at, morT_at, mnotT_at, mtru_at, mbl_at, mite_at, mchain_at, mcall_at, mcallN_at, mmeth_at, msl_at, mpart0, mpart1, mdic0_at, iseq_at, irng_at, fin_none, fin_v, fin_newF, fin_newT, resM_some, resM_none, isLst_ref, lstOf_ref, lstOf_lst, seqOf_tup, seqOf_lst, seqOf_ref, seqOf_scr, truth_bl, forLoop_nil, gname_at, gtup_at, gtup_lst, go_nil, go_cons, gstar_at, gsub_at, startE_at, wipeE_nil, wipeE_cons, isi_at, len_at, all_lst, tuple_at, list_at, isN_eq, isN_ne, isN_in, isN_notIn, cmp_int, add_int, sub_int, mod_int, fdiv_int, mul_int, mul_lst, add_lst, add_refL, app_at, join_at, isStr_str, add_tup, add_str, int_bl, int_int, sl_tup, sl_lst, sl_str, pow_int, neg_int, ix_tup, ix_lst, ix_ref, ix_scr, sat_ok, sat_exc, sat_bad, sat_bind, satS_some, satS_none, satO_some, satO_none, toRet_nx, toRet_ret, toRet_exc, sat_run, toSeq_nx, toSeq_ret, toSeq_exc, toSeq_bk, toSeq_ct, satS_seq, satS_pass, satS_brk, satS_cnt, satS_expr, satS_ret, satS_retN, satS_asg, satS_if, satS_for, sat_comp, satS_par2, satS_par3, sat_ite, fin_ite, mdisp_at, mpairs_nil, mpairs_cons, mixd_at, mget2_at, mdict_at, mfz_at, mstar_at, mdzip_at, gQ_at, gYield_at, gSeq_at, gIf_at, gLoop_nil, gFor_at, gFrom_at, runG_at, ienum_at, mlistG_at, sat_runL, Res.bind_ok, Res.bind_bad, Res.bind_exc, List.getElem?_cons_zero, List.getElem?_cons_succ, List.getElem?_nil, List.map_cons, List.map_nil, List.cons_append, List.nil_append, List.append_nil, List.length_cons, List.length_nil, List.set_cons_zero, List.set_cons_succ, Option.map_some, Option.map_none, Option.isSome_some, List.replicate_succ, List.replicate_zero, if_true, if_false, reduceIte, Nat.reduceAdd, Nat.reduceSub, Nat.reduceLeDiff, Nat.reduceEqDiff, Nat.reduceLT, Bool.false_eq_true, and_self, and_true, true_and, List.drop_succ_cons, List.drop_zero, List.take_succ_cons, List.take_zero, Nat.zero_add, Nat.add_zero, Bool.not_true, Bool.not_false, Nat.sub_self, Nat.le_refl, Int.reduceLT, Int.reduceNeg, Nat.reducePow, Int.reducePow, Int.reduceToNat, Int.reduceAdd, Int.reduceSub, Int.reduceLE, Int.cast_ofNat_Int, Int.reduceBEq, List.flatten_cons, List.flatten_nil, Nat.reduceMul, Nat.one_mul, Nat.mul_one, Nat.mul_zero, Nat.zero_le, Int.reduceMul, e]
      exact right_of ⟨a, b, by simp, ha⟩ fun h' => rfl
    · obtain ⟨ws, rfl, _, _⟩ := list_of (g := fun _ : Unit => D.bl true) (P := fun _ => True) fun y hy => ⟨(), at_all hp y hy, trivial⟩
      have hall : ∀ l : List Unit, ((l.map fun _ => true).all id) = true := fun l => by simp
      simp only [mc_at, mvar_at, mnil_at, mcons_at, mop1_at, mop2_at, mtup_at, mlst_at, mfun_at, mand_at, mor_at, mnot_at, mandT_at, morT_at, mnotT_at, mtru_at, mbl_at, mite_at, mchain_at, mcall_at, mcallN_at, mmeth_at, msl_at, mpart0, mpart1, mdic0_at, iseq_at, irng_at, fin_none, fin_v, fin_newF, fin_newT, resM_some, resM_none, isLst_ref, lstOf_ref, lstOf_lst, seqOf_tup, seqOf_lst, seqOf_ref, seqOf_scr, truth_bl, forLoop_nil, gname_at, gtup_at, gtup_lst, go_nil, go_cons, gstar_at, gsub_at, startE_at, wipeE_nil, wipeE_cons, isi_at, len_at, all_lst, tuple_at, list_at, isN_eq, isN_ne, isN_in, isN_notIn, cmp_int, add_int, sub_int, mod_int, fdiv_int, mul_int, mul_lst, add_lst, add_refL, app_at, join_at, isStr_str, add_tup, add_str, int_bl, int_int, sl_tup, sl_lst, sl_str, pow_int, neg_int, ix_tup, ix_lst, ix_ref, ix_scr, sat_ok, sat_exc, sat_bad, sat_bind, satS_some, satS_none, satO_some, satO_none, toRet_nx, toRet_ret, toRet_exc, sat_run, toSeq_nx, toSeq_ret, toSeq_exc, toSeq_bk, toSeq_ct, satS_seq, satS_pass, satS_brk, satS_cnt, satS_expr, satS_ret, satS_retN, satS_asg, satS_if, satS_for, sat_comp, satS_par2, satS_par3, sat_ite, fin_ite, mdisp_at, mpairs_nil, mpairs_cons, mixd_at, mget2_at, mdict_at, mfz_at, mstar_at, mdzip_at, gQ_at, gYield_at, gSeq_at, gIf_at, gLoop_nil, gFor_at, gFrom_at, runG_at, ienum_at, mlistG_at, sat_runL, Res.bind_ok, Res.bind_bad, Res.bind_exc, List.getElem?_cons_zero, List.getElem?_cons_succ, List.getElem?_nil, List.map_cons, List.map_nil, List.cons_append, List.nil_append, List.append_nil, List.length_cons, List.length_nil, List.set_cons_zero, List.set_cons_succ, Option.map_some, Option.map_none, Option.isSome_some, List.replicate_succ, List.replicate_zero, if_true, if_false, reduceIte, Nat.reduceAdd, Nat.reduceSub, Nat.reduceLeDiff, Nat.reduceEqDiff, Nat.reduceLT, Bool.false_eq_true, and_self, and_true, true_and, List.drop_succ_cons, List.drop_zero, List.take_succ_cons, List.take_zero, Nat.zero_add, Nat.add_zero, Bool.not_true, Bool.not_false, Nat.sub_self, Nat.le_refl, Int.reduceLT, Int.reduceNeg, Nat.reducePow, Int.reducePow, Int.reduceToNat, Int.reduceAdd, Int.reduceSub, Int.reduceLE, Int.cast_ofNat_Int, Int.reduceBEq, List.flatten_cons, List.flatten_nil, Nat.reduceMul, Nat.one_mul, Nat.mul_one, Nat.mul_zero, Nat.zero_le, Int.reduceMul, bls_map, hall]
  cases e : F_law [.scr ns] [] with
  | ok y h => rw [e] at key; exact ⟨h, by rw [show y = .bl true from key]⟩
  | exc x h => rw [e] at key; exact key.elim
  | bad => rw [e] at key; exact key.elim
end
end EV


set_option maxHeartbeats 4000000
namespace EV
open PySem PySem.Spec PyProof.Rows L2 RP
theorem all_mk {P : Program} {w : World} {K : PySem.W.Frag} {h : Heap} {mg : Str → Option Value} {fa : Addr} (X : K.In h) (G : h.Ns mainGlobals mg) (hfa : mg "law" = some (.ref fa))
    {tk_gLETTERS : Nat} {tk_gMOST_LETTERS : Nat} {f_is_made_of : Addr} {od_is_made_of : Option Addr} {an_is_made_of : Option Addr} {sl_is_made_of : Array (Option Value)} {oc_is_made_of : Value} {dc_is_made_of : Value} {pm_is_made_of : Value} {cd_is_made_of : Value} {ct_is_made_of : Value} {kV_is_made_of : Value} {f_is_name : Addr} {od_is_name : Option Addr} {an_is_name : Option Addr} {sl_is_name : Array (Option Value)} {oc_is_name : Value} {dc_is_name : Value} {pm_is_name : Value} {cd_is_name : Value} {ct_is_name : Value} {kV_is_name : Value} {f_filled_path : Addr} {od_filled_path : Option Addr} {an_filled_path : Option Addr} {sl_filled_path : Array (Option Value)} {oc_filled_path : Value} {dc_filled_path : Value} {pm_filled_path : Value} {cd_filled_path : Value} {ct_filled_path : Value} {kV_filled_path : Value} {f_filled_expression : Addr} {od_filled_expression : Option Addr} {an_filled_expression : Option Addr} {sl_filled_expression : Array (Option Value)} {oc_filled_expression : Value} {dc_filled_expression : Value} {pm_filled_expression : Value} {cd_filled_expression : Value} {ct_filled_expression : Value} {kV_filled_expression : Value} {f_filled_item : Addr} {od_filled_item : Option Addr} {an_filled_item : Option Addr} {sl_filled_item : Array (Option Value)} {oc_filled_item : Value} {dc_filled_item : Value} {pm_filled_item : Value} {cd_filled_item : Value} {ct_filled_item : Value} {kV_filled_item : Value} {f_filled_rest : Addr} {od_filled_rest : Option Addr} {an_filled_rest : Option Addr} {sl_filled_rest : Array (Option Value)} {oc_filled_rest : Value} {dc_filled_rest : Value} {pm_filled_rest : Value} {cd_filled_rest : Value} {ct_filled_rest : Value} {kV_filled_rest : Value} {f_filled_body : Addr} {od_filled_body : Option Addr} {an_filled_body : Option Addr} {sl_filled_body : Array (Option Value)} {oc_filled_body : Value} {dc_filled_body : Value} {pm_filled_body : Value} {cd_filled_body : Value} {ct_filled_body : Value} {kV_filled_body : Value} {f_are_arguments : Addr} {od_are_arguments : Option Addr} {an_are_arguments : Option Addr} {sl_are_arguments : Array (Option Value)} {oc_are_arguments : Value} {dc_are_arguments : Value} {pm_are_arguments : Value} {cd_are_arguments : Value} {ct_are_arguments : Value} {kV_are_arguments : Value} {f_filled : Addr} {od_filled : Option Addr} {an_filled : Option Addr} {sl_filled : Array (Option Value)} {oc_filled : Value} {dc_filled : Value} {pm_filled : Value} {cd_filled : Value} {ct_filled : Value} {kV_filled : Value} {f_placed : Addr} {od_placed : Option Addr} {an_placed : Option Addr} {sl_placed : Array (Option Value)} {oc_placed : Value} {dc_placed : Value} {pm_placed : Value} {cd_placed : Value} {ct_placed : Value} {kV_placed : Value} {f_expansion : Addr} {od_expansion : Option Addr} {an_expansion : Option Addr} {sl_expansion : Array (Option Value)} {oc_expansion : Value} {dc_expansion : Value} {pm_expansion : Value} {cd_expansion : Value} {ct_expansion : Value} {kV_expansion : Value} {f__law_rng : Addr} {od__law_rng : Option Addr} {an__law_rng : Option Addr} {sl__law_rng : Array (Option Value)} {oc__law_rng : Value} {dc__law_rng : Value} {pm__law_rng : Value} {cd__law_rng : Value} {ct__law_rng : Value} {kV__law_rng : Value} {f__law_draw : Addr} {od__law_draw : Option Addr} {an__law_draw : Option Addr} {sl__law_draw : Array (Option Value)} {oc__law_draw : Value} {dc__law_draw : Value} {pm__law_draw : Value} {cd__law_draw : Value} {ct__law_draw : Value} {kV__law_draw : Value} {f__law_name : Addr} {od__law_name : Option Addr} {an__law_name : Option Addr} {sl__law_name : Array (Option Value)} {oc__law_name : Value} {dc__law_name : Value} {pm__law_name : Value} {cd__law_name : Value} {ct__law_name : Value} {kV__law_name : Value} {f__law_names : Addr} {od__law_names : Option Addr} {an__law_names : Option Addr} {sl__law_names : Array (Option Value)} {oc__law_names : Value} {dc__law_names : Value} {pm__law_names : Value} {cd__law_names : Value} {ct__law_names : Value} {kV__law_names : Value} {f__law_spot : Addr} {od__law_spot : Option Addr} {an__law_spot : Option Addr} {sl__law_spot : Array (Option Value)} {oc__law_spot : Value} {dc__law_spot : Value} {pm__law_spot : Value} {cd__law_spot : Value} {ct__law_spot : Value} {kV__law_spot : Value} {f__law_macro : Addr} {od__law_macro : Option Addr} {an__law_macro : Option Addr} {sl__law_macro : Array (Option Value)} {oc__law_macro : Value} {dc__law_macro : Value} {pm__law_macro : Value} {cd__law_macro : Value} {ct__law_macro : Value} {kV__law_macro : Value} {f__law_right : Addr} {od__law_right : Option Addr} {an__law_right : Option Addr} {sl__law_right : Array (Option Value)} {oc__law_right : Value} {dc__law_right : Value} {pm__law_right : Value} {cd__law_right : Value} {ct__law_right : Value} {kV__law_right : Value} {f_law : Addr} {od_law : Option Addr} {an_law : Option Addr} {sl_law : Array (Option Value)} {oc_law : Value} {dc_law : Value} {pm_law : Value} {cd_law : Value} {ct_law : Value} {kV_law : Value}
    (z_abs : PySem.W.nsIn K mainGlobals "abs" = some none)
    (z_all : PySem.W.nsIn K mainGlobals "all" = some none)
    (z_dict : PySem.W.nsIn K mainGlobals "dict" = some none)
    (z_divmod : PySem.W.nsIn K mainGlobals "divmod" = some none)
    (z_enumerate : PySem.W.nsIn K mainGlobals "enumerate" = some none)
    (z_isinstance : PySem.W.nsIn K mainGlobals "isinstance" = some none)
    (z_len : PySem.W.nsIn K mainGlobals "len" = some none)
    (z_list : PySem.W.nsIn K mainGlobals "list" = some none)
    (z_max : PySem.W.nsIn K mainGlobals "max" = some none)
    (z_min : PySem.W.nsIn K mainGlobals "min" = some none)
    (z_range : PySem.W.nsIn K mainGlobals "range" = some none)
    (z_repr : PySem.W.nsIn K mainGlobals "repr" = some none)
    (z_str : PySem.W.nsIn K mainGlobals "str" = some none)
    (z_tuple : PySem.W.nsIn K mainGlobals "tuple" = some none)
    (z_zip : PySem.W.nsIn K mainGlobals "zip" = some none)
    (g_LETTERS : PySem.W.nsIn K mainGlobals "LETTERS" = some (some (Value.str "abcdefghijklmnopqrstuvwxyz" tk_gLETTERS)))
    (g_MOST_LETTERS : PySem.W.nsIn K mainGlobals "MOST_LETTERS" = some (some (Value.int 8 tk_gMOST_LETTERS)))
    (a_is_made_of : PySem.W.nsIn K mainGlobals "is_made_of" = some (some (.ref f_is_made_of)))
    (l_is_made_of : K.lookup f_is_made_of = some ⟨oc_is_made_of, od_is_made_of, .func (PySem.W.fnOf "is_made_of" "is_made_of" (defArgs st_is_made_of) (defBody st_is_made_of) (defScope st_is_made_of) .none kV_is_made_of dc_is_made_of pm_is_made_of an_is_made_of cd_is_made_of ct_is_made_of), sl_is_made_of⟩)
    (c_is_made_of : PySem.W.codeIn K cd_is_made_of "is_made_of" = true)
    (k_is_made_of : PySem.W.keepIn K (.ref f_is_made_of) = true)
    (a_is_name : PySem.W.nsIn K mainGlobals "is_name" = some (some (.ref f_is_name)))
    (l_is_name : K.lookup f_is_name = some ⟨oc_is_name, od_is_name, .func (PySem.W.fnOf "is_name" "is_name" (defArgs st_is_name) (defBody st_is_name) (defScope st_is_name) .none kV_is_name dc_is_name pm_is_name an_is_name cd_is_name ct_is_name), sl_is_name⟩)
    (c_is_name : PySem.W.codeIn K cd_is_name "is_name" = true)
    (k_is_name : PySem.W.keepIn K (.ref f_is_name) = true)
    (a_filled_path : PySem.W.nsIn K mainGlobals "filled_path" = some (some (.ref f_filled_path)))
    (l_filled_path : K.lookup f_filled_path = some ⟨oc_filled_path, od_filled_path, .func (PySem.W.fnOf "filled_path" "filled_path" (defArgs st_filled_path) (defBody st_filled_path) (defScope st_filled_path) .none kV_filled_path dc_filled_path pm_filled_path an_filled_path cd_filled_path ct_filled_path), sl_filled_path⟩)
    (c_filled_path : PySem.W.codeIn K cd_filled_path "filled_path" = true)
    (k_filled_path : PySem.W.keepIn K (.ref f_filled_path) = true)
    (a_filled_expression : PySem.W.nsIn K mainGlobals "filled_expression" = some (some (.ref f_filled_expression)))
    (l_filled_expression : K.lookup f_filled_expression = some ⟨oc_filled_expression, od_filled_expression, .func (PySem.W.fnOf "filled_expression" "filled_expression" (defArgs st_filled_expression) (defBody st_filled_expression) (defScope st_filled_expression) .none kV_filled_expression dc_filled_expression pm_filled_expression an_filled_expression cd_filled_expression ct_filled_expression), sl_filled_expression⟩)
    (c_filled_expression : PySem.W.codeIn K cd_filled_expression "filled_expression" = true)
    (k_filled_expression : PySem.W.keepIn K (.ref f_filled_expression) = true)
    (a_filled_item : PySem.W.nsIn K mainGlobals "filled_item" = some (some (.ref f_filled_item)))
    (l_filled_item : K.lookup f_filled_item = some ⟨oc_filled_item, od_filled_item, .func (PySem.W.fnOf "filled_item" "filled_item" (defArgs st_filled_item) (defBody st_filled_item) (defScope st_filled_item) .none kV_filled_item dc_filled_item pm_filled_item an_filled_item cd_filled_item ct_filled_item), sl_filled_item⟩)
    (c_filled_item : PySem.W.codeIn K cd_filled_item "filled_item" = true)
    (k_filled_item : PySem.W.keepIn K (.ref f_filled_item) = true)
    (a_filled_rest : PySem.W.nsIn K mainGlobals "filled_rest" = some (some (.ref f_filled_rest)))
    (l_filled_rest : K.lookup f_filled_rest = some ⟨oc_filled_rest, od_filled_rest, .func (PySem.W.fnOf "filled_rest" "filled_rest" (defArgs st_filled_rest) (defBody st_filled_rest) (defScope st_filled_rest) .none kV_filled_rest dc_filled_rest pm_filled_rest an_filled_rest cd_filled_rest ct_filled_rest), sl_filled_rest⟩)
    (c_filled_rest : PySem.W.codeIn K cd_filled_rest "filled_rest" = true)
    (k_filled_rest : PySem.W.keepIn K (.ref f_filled_rest) = true)
    (a_filled_body : PySem.W.nsIn K mainGlobals "filled_body" = some (some (.ref f_filled_body)))
    (l_filled_body : K.lookup f_filled_body = some ⟨oc_filled_body, od_filled_body, .func (PySem.W.fnOf "filled_body" "filled_body" (defArgs st_filled_body) (defBody st_filled_body) (defScope st_filled_body) .none kV_filled_body dc_filled_body pm_filled_body an_filled_body cd_filled_body ct_filled_body), sl_filled_body⟩)
    (c_filled_body : PySem.W.codeIn K cd_filled_body "filled_body" = true)
    (k_filled_body : PySem.W.keepIn K (.ref f_filled_body) = true)
    (a_are_arguments : PySem.W.nsIn K mainGlobals "are_arguments" = some (some (.ref f_are_arguments)))
    (l_are_arguments : K.lookup f_are_arguments = some ⟨oc_are_arguments, od_are_arguments, .func (PySem.W.fnOf "are_arguments" "are_arguments" (defArgs st_are_arguments) (defBody st_are_arguments) (defScope st_are_arguments) .none kV_are_arguments dc_are_arguments pm_are_arguments an_are_arguments cd_are_arguments ct_are_arguments), sl_are_arguments⟩)
    (c_are_arguments : PySem.W.codeIn K cd_are_arguments "are_arguments" = true)
    (k_are_arguments : PySem.W.keepIn K (.ref f_are_arguments) = true)
    (a_filled : PySem.W.nsIn K mainGlobals "filled" = some (some (.ref f_filled)))
    (l_filled : K.lookup f_filled = some ⟨oc_filled, od_filled, .func (PySem.W.fnOf "filled" "filled" (defArgs st_filled) (defBody st_filled) (defScope st_filled) .none kV_filled dc_filled pm_filled an_filled cd_filled ct_filled), sl_filled⟩)
    (c_filled : PySem.W.codeIn K cd_filled "filled" = true)
    (k_filled : PySem.W.keepIn K (.ref f_filled) = true)
    (a_placed : PySem.W.nsIn K mainGlobals "placed" = some (some (.ref f_placed)))
    (l_placed : K.lookup f_placed = some ⟨oc_placed, od_placed, .func (PySem.W.fnOf "placed" "placed" (defArgs st_placed) (defBody st_placed) (defScope st_placed) .none kV_placed dc_placed pm_placed an_placed cd_placed ct_placed), sl_placed⟩)
    (c_placed : PySem.W.codeIn K cd_placed "placed" = true)
    (k_placed : PySem.W.keepIn K (.ref f_placed) = true)
    (a_expansion : PySem.W.nsIn K mainGlobals "expansion" = some (some (.ref f_expansion)))
    (l_expansion : K.lookup f_expansion = some ⟨oc_expansion, od_expansion, .func (PySem.W.fnOf "expansion" "expansion" (defArgs st_expansion) (defBody st_expansion) (defScope st_expansion) .none kV_expansion dc_expansion pm_expansion an_expansion cd_expansion ct_expansion), sl_expansion⟩)
    (c_expansion : PySem.W.codeIn K cd_expansion "expansion" = true)
    (k_expansion : PySem.W.keepIn K (.ref f_expansion) = true)
    (a__law_rng : PySem.W.nsIn K mainGlobals "_law_rng" = some (some (.ref f__law_rng)))
    (l__law_rng : K.lookup f__law_rng = some ⟨oc__law_rng, od__law_rng, .func (PySem.W.fnOf "_law_rng" "_law_rng" (defArgs st__law_rng) (defBody st__law_rng) (defScope st__law_rng) .none kV__law_rng dc__law_rng pm__law_rng an__law_rng cd__law_rng ct__law_rng), sl__law_rng⟩)
    (c__law_rng : PySem.W.codeIn K cd__law_rng "_law_rng" = true)
    (k__law_rng : PySem.W.keepIn K (.ref f__law_rng) = true)
    (a__law_draw : PySem.W.nsIn K mainGlobals "_law_draw" = some (some (.ref f__law_draw)))
    (l__law_draw : K.lookup f__law_draw = some ⟨oc__law_draw, od__law_draw, .func (PySem.W.fnOf "_law_draw" "_law_draw" (defArgs st__law_draw) (defBody st__law_draw) (defScope st__law_draw) .none kV__law_draw dc__law_draw pm__law_draw an__law_draw cd__law_draw ct__law_draw), sl__law_draw⟩)
    (c__law_draw : PySem.W.codeIn K cd__law_draw "_law_draw" = true)
    (k__law_draw : PySem.W.keepIn K (.ref f__law_draw) = true)
    (a__law_name : PySem.W.nsIn K mainGlobals "_law_name" = some (some (.ref f__law_name)))
    (l__law_name : K.lookup f__law_name = some ⟨oc__law_name, od__law_name, .func (PySem.W.fnOf "_law_name" "_law_name" (defArgs st__law_name) (defBody st__law_name) (defScope st__law_name) .none kV__law_name dc__law_name pm__law_name an__law_name cd__law_name ct__law_name), sl__law_name⟩)
    (c__law_name : PySem.W.codeIn K cd__law_name "_law_name" = true)
    (k__law_name : PySem.W.keepIn K (.ref f__law_name) = true)
    (a__law_names : PySem.W.nsIn K mainGlobals "_law_names" = some (some (.ref f__law_names)))
    (l__law_names : K.lookup f__law_names = some ⟨oc__law_names, od__law_names, .func (PySem.W.fnOf "_law_names" "_law_names" (defArgs st__law_names) (defBody st__law_names) (defScope st__law_names) .none kV__law_names dc__law_names pm__law_names an__law_names cd__law_names ct__law_names), sl__law_names⟩)
    (c__law_names : PySem.W.codeIn K cd__law_names "_law_names" = true)
    (k__law_names : PySem.W.keepIn K (.ref f__law_names) = true)
    (a__law_spot : PySem.W.nsIn K mainGlobals "_law_spot" = some (some (.ref f__law_spot)))
    (l__law_spot : K.lookup f__law_spot = some ⟨oc__law_spot, od__law_spot, .func (PySem.W.fnOf "_law_spot" "_law_spot" (defArgs st__law_spot) (defBody st__law_spot) (defScope st__law_spot) .none kV__law_spot dc__law_spot pm__law_spot an__law_spot cd__law_spot ct__law_spot), sl__law_spot⟩)
    (c__law_spot : PySem.W.codeIn K cd__law_spot "_law_spot" = true)
    (k__law_spot : PySem.W.keepIn K (.ref f__law_spot) = true)
    (a__law_macro : PySem.W.nsIn K mainGlobals "_law_macro" = some (some (.ref f__law_macro)))
    (l__law_macro : K.lookup f__law_macro = some ⟨oc__law_macro, od__law_macro, .func (PySem.W.fnOf "_law_macro" "_law_macro" (defArgs st__law_macro) (defBody st__law_macro) (defScope st__law_macro) .none kV__law_macro dc__law_macro pm__law_macro an__law_macro cd__law_macro ct__law_macro), sl__law_macro⟩)
    (c__law_macro : PySem.W.codeIn K cd__law_macro "_law_macro" = true)
    (k__law_macro : PySem.W.keepIn K (.ref f__law_macro) = true)
    (a__law_right : PySem.W.nsIn K mainGlobals "_law_right" = some (some (.ref f__law_right)))
    (l__law_right : K.lookup f__law_right = some ⟨oc__law_right, od__law_right, .func (PySem.W.fnOf "_law_right" "_law_right" (defArgs st__law_right) (defBody st__law_right) (defScope st__law_right) .none kV__law_right dc__law_right pm__law_right an__law_right cd__law_right ct__law_right), sl__law_right⟩)
    (c__law_right : PySem.W.codeIn K cd__law_right "_law_right" = true)
    (k__law_right : PySem.W.keepIn K (.ref f__law_right) = true)
    (a_law : PySem.W.nsIn K mainGlobals "law" = some (some (.ref f_law)))
    (l_law : K.lookup f_law = some ⟨oc_law, od_law, .func (PySem.W.fnOf "law" "law" (defArgs st_law) (defBody st_law) (defScope st_law) .none kV_law dc_law pm_law an_law cd_law ct_law), sl_law⟩)
    (c_law : PySem.W.codeIn K cd_law "law" = true)
    (k_law : PySem.W.keepIn K (.ref f_law) = true)
    : ∃ (fd : FuncData) (C : Ctx), C.K = K ∧ (∀ (s : Shared) (u : Value), BindsTo s fd ⟨[u], []⟩ [("_law_script", u)]) ∧ ∀ base : Heap, K.In base → base.Ns mainGlobals mg → FnGP P w K mg base 29 fa fd ["_law_script"] (spM C 1 F_law) := by
  have e := hfa.symm.trans (PySem.W.mg_of X G a_law)
  cases e
  have FD_is_made_of := fund0 (st := st_is_made_of) l_is_made_of c_is_made_of k_is_made_of
  have M_is_made_of := PySem.W.mg_of X G a_is_made_of
  have FD_is_name := fund0 (st := st_is_name) l_is_name c_is_name k_is_name
  have M_is_name := PySem.W.mg_of X G a_is_name
  have FD_filled_path := fund0 (st := st_filled_path) l_filled_path c_filled_path k_filled_path
  have M_filled_path := PySem.W.mg_of X G a_filled_path
  have FD_filled_expression := fund0 (st := st_filled_expression) l_filled_expression c_filled_expression k_filled_expression
  have M_filled_expression := PySem.W.mg_of X G a_filled_expression
  have FD_filled_item := fund0 (st := st_filled_item) l_filled_item c_filled_item k_filled_item
  have M_filled_item := PySem.W.mg_of X G a_filled_item
  have FD_filled_rest := fund0 (st := st_filled_rest) l_filled_rest c_filled_rest k_filled_rest
  have M_filled_rest := PySem.W.mg_of X G a_filled_rest
  have FD_filled_body := fund0 (st := st_filled_body) l_filled_body c_filled_body k_filled_body
  have M_filled_body := PySem.W.mg_of X G a_filled_body
  have FD_are_arguments := fund0 (st := st_are_arguments) l_are_arguments c_are_arguments k_are_arguments
  have M_are_arguments := PySem.W.mg_of X G a_are_arguments
  have FD_filled := fund0 (st := st_filled) l_filled c_filled k_filled
  have M_filled := PySem.W.mg_of X G a_filled
  have FD_placed := fund0 (st := st_placed) l_placed c_placed k_placed
  have M_placed := PySem.W.mg_of X G a_placed
  have FD_expansion := fund0 (st := st_expansion) l_expansion c_expansion k_expansion
  have M_expansion := PySem.W.mg_of X G a_expansion
  have FD__law_rng := fund0 (st := st__law_rng) l__law_rng c__law_rng k__law_rng
  have M__law_rng := PySem.W.mg_of X G a__law_rng
  have FD__law_draw := fund0 (st := st__law_draw) l__law_draw c__law_draw k__law_draw
  have M__law_draw := PySem.W.mg_of X G a__law_draw
  have FD__law_name := fund0 (st := st__law_name) l__law_name c__law_name k__law_name
  have M__law_name := PySem.W.mg_of X G a__law_name
  have FD__law_names := fund0 (st := st__law_names) l__law_names c__law_names k__law_names
  have M__law_names := PySem.W.mg_of X G a__law_names
  have FD__law_spot := fund0 (st := st__law_spot) l__law_spot c__law_spot k__law_spot
  have M__law_spot := PySem.W.mg_of X G a__law_spot
  have FD__law_macro := fund0 (st := st__law_macro) l__law_macro c__law_macro k__law_macro
  have M__law_macro := PySem.W.mg_of X G a__law_macro
  have FD__law_right := fund0 (st := st__law_right) l__law_right c__law_right k__law_right
  have M__law_right := PySem.W.mg_of X G a__law_right
  have FD_law := fund0 (st := st_law) l_law c_law k_law
  have M_law := PySem.W.mg_of X G a_law
  have b_c_is_made_of_3 := FD_is_made_of.bindsN (ps := ["value", "signs", "most"]) fun _ _ _ _ _ _ us hl => match us, hl with | [_, _, _], _ => rfl
  have b_c_is_name_1 := FD_is_name.bindsN (ps := ["value"]) fun _ _ _ _ _ _ us hl => match us, hl with | [_], _ => rfl
  have b_c_filled_path_2 := FD_filled_path.bindsN (ps := ["path", "words"]) fun _ _ _ _ _ _ us hl => match us, hl with | [_, _], _ => rfl
  have b_c_filled_expression_2 := FD_filled_expression.bindsN (ps := ["expression", "words"]) fun _ _ _ _ _ _ us hl => match us, hl with | [_, _], _ => rfl
  have b_c_filled_body_2 := FD_filled_body.bindsN (ps := ["body", "words"]) fun _ _ _ _ _ _ us hl => match us, hl with | [_, _], _ => rfl
  have b_c_filled_item_2 := FD_filled_item.bindsN (ps := ["item", "words"]) fun _ _ _ _ _ _ us hl => match us, hl with | [_, _], _ => rfl
  have b_c_filled_rest_3 := FD_filled_rest.bindsN (ps := ["kind", "parts", "words"]) fun _ _ _ _ _ _ us hl => match us, hl with | [_, _, _], _ => rfl
  have b_c_are_arguments_2 := FD_are_arguments.bindsN (ps := ["value", "count"]) fun _ _ _ _ _ _ us hl => match us, hl with | [_, _], _ => rfl
  have b_c_filled_3 := FD_filled.bindsN (ps := ["body", "parameters", "arguments"]) fun _ _ _ _ _ _ us hl => match us, hl with | [_, _, _], _ => rfl
  have b_c_placed_4 := FD_placed.bindsN (ps := ["body", "place", "module", "there"]) fun _ _ _ _ _ _ us hl => match us, hl with | [_, _, _, _], _ => rfl
  have b_c_expansion_5 := FD_expansion.bindsN (ps := ["macro", "arguments", "place", "module", "home"]) fun _ _ _ _ _ _ us hl => match us, hl with | [_, _, _, _, _], _ => rfl
  have b_c__law_rng_2 := FD__law_rng.bindsN (ps := ["_law_script", "_law_k"]) fun _ _ _ _ _ _ us hl => match us, hl with | [_, _], _ => rfl
  have b_c__law_draw_2 := FD__law_draw.bindsN (ps := ["_law_rng_here", "_law_many"]) fun _ _ _ _ _ _ us hl => match us, hl with | [_, _], _ => rfl
  have b_c__law_name_2 := FD__law_name.bindsN (ps := ["_law_rng_here", "_law_used"]) fun _ _ _ _ _ _ us hl => match us, hl with | [_, _], _ => rfl
  have b_c__law_names_3 := FD__law_names.bindsN (ps := ["_law_rng_here", "_law_many", "_law_used"]) fun _ _ _ _ _ _ us hl => match us, hl with | [_, _, _], _ => rfl
  have b_c__law_spot_1 := FD__law_spot.bindsN (ps := ["_law_rng_here"]) fun _ _ _ _ _ _ us hl => match us, hl with | [_], _ => rfl
  have b_c__law_macro_2 := FD__law_macro.bindsN (ps := ["_law_one", "_law_two"]) fun _ _ _ _ _ _ us hl => match us, hl with | [_, _], _ => rfl
  have b_c__law_right_1 := FD__law_right.bindsN (ps := ["_law_rng_here"]) fun _ _ _ _ _ _ us hl => match us, hl with | [_], _ => rfl
  have TT : TX ⟨K, fun i => ([f_filled_expression, f_filled_path, f_filled_body] : List Addr).getD i 0, fun _ => 0⟩ mg := ⟨PySem.W.mg_none_of X G z_abs, PySem.W.mg_none_of X G z_all, PySem.W.mg_none_of X G z_dict, PySem.W.mg_none_of X G z_divmod, PySem.W.mg_none_of X G z_enumerate, PySem.W.mg_none_of X G z_isinstance, PySem.W.mg_none_of X G z_len, PySem.W.mg_none_of X G z_list, PySem.W.mg_none_of X G z_max, PySem.W.mg_none_of X G z_min, PySem.W.mg_none_of X G z_range, PySem.W.mg_none_of X G z_repr, PySem.W.mg_none_of X G z_str, PySem.W.mg_none_of X G z_tuple, PySem.W.mg_none_of X G z_zip, gval_str (PySem.W.mg_of X G g_LETTERS) rfl, gval_int (PySem.W.mg_of X G g_MOST_LETTERS), ⟨M_filled_expression⟩, ⟨M_filled_path⟩, ⟨M_filled_body⟩⟩
  refine ⟨PySem.W.fnOf "law" "law" (defArgs st_law) (defBody st_law) (defScope st_law) .none kV_law dc_law pm_law an_law cd_law ct_law, ⟨K, fun i => ([f_filled_expression, f_filled_path, f_filled_body] : List Addr).getD i 0, fun _ => 0⟩, rfl, fun s u => .of_eq rfl, fun base _ _ => ?_⟩
  have G_is_made_of := ok_is_made_of (P := P) (w := w) (base := base) (C := ⟨K, fun i => ([f_filled_expression, f_filled_path, f_filled_body] : List Addr).getD i 0, fun _ => 0⟩) TT  FD_is_made_of
  have c_is_made_of_3 : CallOk (⟨K, fun i => ([f_filled_expression, f_filled_path, f_filled_body] : List Addr).getD i 0, fun _ => 0⟩ : EV.Ctx) P w mg base CX0 1 "is_made_of" 3 F_is_made_of [] := callOk0 (qual := "is_made_of") FD_is_made_of M_is_made_of G_is_made_of b_c_is_made_of_3
  have G_is_name := ok_is_name (P := P) (w := w) (base := base) (C := ⟨K, fun i => ([f_filled_expression, f_filled_path, f_filled_body] : List Addr).getD i 0, fun _ => 0⟩) TT c_is_made_of_3 FD_is_name
  have c_is_name_1 : CallOk (⟨K, fun i => ([f_filled_expression, f_filled_path, f_filled_body] : List Addr).getD i 0, fun _ => 0⟩ : EV.Ctx) P w mg base CX0 2 "is_name" 1 F_is_name [] := callOk0 (qual := "is_name") FD_is_name M_is_name G_is_name b_c_is_name_1
  have G_filled_path := ok_filled_path (P := P) (w := w) (base := base) (C := ⟨K, fun i => ([f_filled_expression, f_filled_path, f_filled_body] : List Addr).getD i 0, fun _ => 0⟩) TT  FD_filled_path
  have c_filled_path_2 : CallOk (⟨K, fun i => ([f_filled_expression, f_filled_path, f_filled_body] : List Addr).getD i 0, fun _ => 0⟩ : EV.Ctx) P w mg base CX0 1 "filled_path" 2 F_filled_path [] := callOk0 (qual := "filled_path") FD_filled_path M_filled_path G_filled_path b_c_filled_path_2
  have FF_filled_expression_ok : ∀ n : Nat, FnG P w K mg base CX0 (1 + n) f_filled_expression (PySem.W.fnOf "filled_expression" "filled_expression" (defArgs st_filled_expression) (defBody st_filled_expression) (defScope st_filled_expression) .none kV_filled_expression dc_filled_expression pm_filled_expression an_filled_expression cd_filled_expression ct_filled_expression) ["expression", "words"] (spM ⟨K, fun i => ([f_filled_expression, f_filled_path, f_filled_body] : List Addr).getD i 0, fun _ => 0⟩ 2 (FF_filled_expression n 0)) := by
    intro n
    induction n with
    | zero => exact fn_bad rfl
    | succ n ih =>
      have I_filled_expression := ih
      have c_filled_expression_2 : CallOk (⟨K, fun i => ([f_filled_expression, f_filled_path, f_filled_body] : List Addr).getD i 0, fun _ => 0⟩ : EV.Ctx) P w mg base CX0 (1 + n) "filled_expression" 2 (FF_filled_expression n 0) [] := callOk0 (qual := "filled_expression") FD_filled_expression M_filled_expression I_filled_expression b_c_filled_expression_2
      exact ok_filled_expression (P := P) (w := w) (base := base) (C := ⟨K, fun i => ([f_filled_expression, f_filled_path, f_filled_body] : List Addr).getD i 0, fun _ => 0⟩) (n := n) TT c_filled_path_2 c_filled_expression_2 FD_filled_expression
  have G_filled_expression := FF_filled_expression_ok 12
  have c_filled_expression_2 : CallOk (⟨K, fun i => ([f_filled_expression, f_filled_path, f_filled_body] : List Addr).getD i 0, fun _ => 0⟩ : EV.Ctx) P w mg base CX0 13 "filled_expression" 2 F_filled_expression [] := callOk0 (qual := "filled_expression") FD_filled_expression M_filled_expression G_filled_expression b_c_filled_expression_2
  have FF_filled_item_ok : ∀ n : Nat, FnG P w K mg base CX0 (13 + n) f_filled_item (PySem.W.fnOf "filled_item" "filled_item" (defArgs st_filled_item) (defBody st_filled_item) (defScope st_filled_item) .none kV_filled_item dc_filled_item pm_filled_item an_filled_item cd_filled_item ct_filled_item) ["item", "words"] (spM ⟨K, fun i => ([f_filled_expression, f_filled_path, f_filled_body] : List Addr).getD i 0, fun _ => 0⟩ 2 (FF_filled_item n 0)) ∧ FnG P w K mg base CX0 (13 + n) f_filled_rest (PySem.W.fnOf "filled_rest" "filled_rest" (defArgs st_filled_rest) (defBody st_filled_rest) (defScope st_filled_rest) .none kV_filled_rest dc_filled_rest pm_filled_rest an_filled_rest cd_filled_rest ct_filled_rest) ["kind", "parts", "words"] (spM ⟨K, fun i => ([f_filled_expression, f_filled_path, f_filled_body] : List Addr).getD i 0, fun _ => 0⟩ 3 (FF_filled_item n 1)) ∧ FnG P w K mg base CX0 (13 + n) f_filled_body (PySem.W.fnOf "filled_body" "filled_body" (defArgs st_filled_body) (defBody st_filled_body) (defScope st_filled_body) .none kV_filled_body dc_filled_body pm_filled_body an_filled_body cd_filled_body ct_filled_body) ["body", "words"] (spM ⟨K, fun i => ([f_filled_expression, f_filled_path, f_filled_body] : List Addr).getD i 0, fun _ => 0⟩ 2 (FF_filled_item n 2)) := by
    intro n
    induction n with
    | zero => exact ⟨fn_bad rfl, fn_bad rfl, fn_bad rfl⟩
    | succ n ih =>
      obtain ⟨I_filled_item, I_filled_rest, I_filled_body⟩ := ih
      have c_filled_body_2 : CallOk (⟨K, fun i => ([f_filled_expression, f_filled_path, f_filled_body] : List Addr).getD i 0, fun _ => 0⟩ : EV.Ctx) P w mg base CX0 (13 + n) "filled_body" 2 (FF_filled_item n 2) [] := callOk0 (qual := "filled_body") FD_filled_body M_filled_body I_filled_body b_c_filled_body_2
      have c_filled_item_2 : CallOk (⟨K, fun i => ([f_filled_expression, f_filled_path, f_filled_body] : List Addr).getD i 0, fun _ => 0⟩ : EV.Ctx) P w mg base CX0 (13 + n) "filled_item" 2 (FF_filled_item n 0) [] := callOk0 (qual := "filled_item") FD_filled_item M_filled_item I_filled_item b_c_filled_item_2
      have c_filled_rest_3 : CallOk (⟨K, fun i => ([f_filled_expression, f_filled_path, f_filled_body] : List Addr).getD i 0, fun _ => 0⟩ : EV.Ctx) P w mg base CX0 (13 + n) "filled_rest" 3 (FF_filled_item n 1) [] := callOk0 (qual := "filled_rest") FD_filled_rest M_filled_rest I_filled_rest b_c_filled_rest_3
      exact ⟨ok_filled_item (P := P) (w := w) (base := base) (C := ⟨K, fun i => ([f_filled_expression, f_filled_path, f_filled_body] : List Addr).getD i 0, fun _ => 0⟩) (n := n) TT c_filled_path_2 c_filled_rest_3 FD_filled_item, ok_filled_rest (P := P) (w := w) (base := base) (C := ⟨K, fun i => ([f_filled_expression, f_filled_path, f_filled_body] : List Addr).getD i 0, fun _ => 0⟩) (n := n) TT c_filled_body_2 c_filled_expression_2 c_filled_path_2 FD_filled_rest, ok_filled_body (P := P) (w := w) (base := base) (C := ⟨K, fun i => ([f_filled_expression, f_filled_path, f_filled_body] : List Addr).getD i 0, fun _ => 0⟩) (n := n) TT c_filled_item_2 FD_filled_body⟩
  obtain ⟨G_filled_item, G_filled_rest, G_filled_body⟩ := FF_filled_item_ok 12
  have c_filled_body_2 : CallOk (⟨K, fun i => ([f_filled_expression, f_filled_path, f_filled_body] : List Addr).getD i 0, fun _ => 0⟩ : EV.Ctx) P w mg base CX0 25 "filled_body" 2 F_filled_body [] := callOk0 (qual := "filled_body") FD_filled_body M_filled_body G_filled_body b_c_filled_body_2
  have G_are_arguments := ok_are_arguments (P := P) (w := w) (base := base) (C := ⟨K, fun i => ([f_filled_expression, f_filled_path, f_filled_body] : List Addr).getD i 0, fun _ => 0⟩) TT c_is_name_1 FD_are_arguments
  have c_are_arguments_2 : CallOk (⟨K, fun i => ([f_filled_expression, f_filled_path, f_filled_body] : List Addr).getD i 0, fun _ => 0⟩ : EV.Ctx) P w mg base CX0 3 "are_arguments" 2 F_are_arguments [] := callOk0 (qual := "are_arguments") FD_are_arguments M_are_arguments G_are_arguments b_c_are_arguments_2
  have G_filled := ok_filled (P := P) (w := w) (base := base) (C := ⟨K, fun i => ([f_filled_expression, f_filled_path, f_filled_body] : List Addr).getD i 0, fun _ => 0⟩) TT c_are_arguments_2 c_filled_body_2 FD_filled
  have c_filled_3 : CallOk (⟨K, fun i => ([f_filled_expression, f_filled_path, f_filled_body] : List Addr).getD i 0, fun _ => 0⟩ : EV.Ctx) P w mg base CX0 26 "filled" 3 F_filled [] := callOk0 (qual := "filled") FD_filled M_filled G_filled b_c_filled_3
  have FF_placed_ok : ∀ n : Nat, GFnP P w K mg base (0 + 2 * n) f_placed (PySem.W.fnOf "placed" "placed" (defArgs st_placed) (defBody st_placed) (defScope st_placed) .none kV_placed dc_placed pm_placed an_placed cd_placed ct_placed) ["body", "place", "module", "there"] (spG ⟨K, fun i => ([f_filled_expression, f_filled_path, f_filled_body] : List Addr).getD i 0, fun _ => 0⟩ 4 (FF_placed n 0)) := by
    intro n
    induction n with
    | zero => exact gfn_bad rfl rfl
    | succ n ih =>
      have I_placed := ih
      have c_placed_4 : CallGen (⟨K, fun i => ([f_filled_expression, f_filled_path, f_filled_body] : List Addr).getD i 0, fun _ => 0⟩ : EV.Ctx) P w mg base (0 + 2 * n) "placed" 4 (FF_placed n 0) := callGen0 (qual := "placed") FD_placed M_placed I_placed b_c_placed_4
      exact ok_placed (P := P) (w := w) (base := base) (C := ⟨K, fun i => ([f_filled_expression, f_filled_path, f_filled_body] : List Addr).getD i 0, fun _ => 0⟩) (n := n) TT c_placed_4 FD_placed
  have G_placed := FF_placed_ok 12
  have c_placed_4 : CallGen (⟨K, fun i => ([f_filled_expression, f_filled_path, f_filled_body] : List Addr).getD i 0, fun _ => 0⟩ : EV.Ctx) P w mg base 24 "placed" 4 F_placed := callGen0 (qual := "placed") FD_placed M_placed G_placed b_c_placed_4
  have G_expansion := ok_expansion (P := P) (w := w) (base := base) (C := ⟨K, fun i => ([f_filled_expression, f_filled_path, f_filled_body] : List Addr).getD i 0, fun _ => 0⟩) TT c_placed_4 c_filled_3 FD_expansion
  have c_expansion_5 : CallLd (⟨K, fun i => ([f_filled_expression, f_filled_path, f_filled_body] : List Addr).getD i 0, fun _ => 0⟩ : EV.Ctx) P w mg base 27 "expansion" 5 F_expansion [] := callLd0 (qual := "expansion") FD_expansion M_expansion G_expansion b_c_expansion_5
  have G__law_rng := ok__law_rng (P := P) (w := w) (base := base) (C := ⟨K, fun i => ([f_filled_expression, f_filled_path, f_filled_body] : List Addr).getD i 0, fun _ => 0⟩) TT  FD__law_rng
  have c__law_rng_2 : CallOk (⟨K, fun i => ([f_filled_expression, f_filled_path, f_filled_body] : List Addr).getD i 0, fun _ => 0⟩ : EV.Ctx) P w mg base CX0 1 "_law_rng" 2 F__law_rng [] := callOk0 (qual := "_law_rng") FD__law_rng M__law_rng G__law_rng b_c__law_rng_2
  have G__law_draw := ok__law_draw (P := P) (w := w) (base := base) (C := ⟨K, fun i => ([f_filled_expression, f_filled_path, f_filled_body] : List Addr).getD i 0, fun _ => 0⟩) TT  FD__law_draw
  have c__law_draw_2 : CallOk (⟨K, fun i => ([f_filled_expression, f_filled_path, f_filled_body] : List Addr).getD i 0, fun _ => 0⟩ : EV.Ctx) P w mg base CX0 1 "_law_draw" 2 F__law_draw [] := callOk0 (qual := "_law_draw") FD__law_draw M__law_draw G__law_draw b_c__law_draw_2
  have G__law_name := ok__law_name (P := P) (w := w) (base := base) (C := ⟨K, fun i => ([f_filled_expression, f_filled_path, f_filled_body] : List Addr).getD i 0, fun _ => 0⟩) TT c__law_draw_2 FD__law_name
  have c__law_name_2 : CallOk (⟨K, fun i => ([f_filled_expression, f_filled_path, f_filled_body] : List Addr).getD i 0, fun _ => 0⟩ : EV.Ctx) P w mg base CX0 2 "_law_name" 2 F__law_name [] := callOk0 (qual := "_law_name") FD__law_name M__law_name G__law_name b_c__law_name_2
  have G__law_names := ok__law_names (P := P) (w := w) (base := base) (C := ⟨K, fun i => ([f_filled_expression, f_filled_path, f_filled_body] : List Addr).getD i 0, fun _ => 0⟩) TT c__law_name_2 FD__law_names
  have c__law_names_3 : CallOk (⟨K, fun i => ([f_filled_expression, f_filled_path, f_filled_body] : List Addr).getD i 0, fun _ => 0⟩ : EV.Ctx) P w mg base CX0 3 "_law_names" 3 F__law_names [] := callOk0 (qual := "_law_names") FD__law_names M__law_names G__law_names b_c__law_names_3
  have G__law_spot := ok__law_spot (P := P) (w := w) (base := base) (C := ⟨K, fun i => ([f_filled_expression, f_filled_path, f_filled_body] : List Addr).getD i 0, fun _ => 0⟩) TT c__law_draw_2 FD__law_spot
  have c__law_spot_1 : CallOk (⟨K, fun i => ([f_filled_expression, f_filled_path, f_filled_body] : List Addr).getD i 0, fun _ => 0⟩ : EV.Ctx) P w mg base CX0 2 "_law_spot" 1 F__law_spot [] := callOk0 (qual := "_law_spot") FD__law_spot M__law_spot G__law_spot b_c__law_spot_1
  have G__law_macro := ok__law_macro (P := P) (w := w) (base := base) (C := ⟨K, fun i => ([f_filled_expression, f_filled_path, f_filled_body] : List Addr).getD i 0, fun _ => 0⟩) TT  FD__law_macro
  have c__law_macro_2 : CallOk (⟨K, fun i => ([f_filled_expression, f_filled_path, f_filled_body] : List Addr).getD i 0, fun _ => 0⟩ : EV.Ctx) P w mg base CX0 1 "_law_macro" 2 F__law_macro [] := callOk0 (qual := "_law_macro") FD__law_macro M__law_macro G__law_macro b_c__law_macro_2
  have G__law_right := ok__law_right (P := P) (w := w) (base := base) (C := ⟨K, fun i => ([f_filled_expression, f_filled_path, f_filled_body] : List Addr).getD i 0, fun _ => 0⟩) TT c__law_names_3 c__law_spot_1 c_expansion_5 c__law_macro_2 FD__law_right
  have c__law_right_1 : CallLd (⟨K, fun i => ([f_filled_expression, f_filled_path, f_filled_body] : List Addr).getD i 0, fun _ => 0⟩ : EV.Ctx) P w mg base 28 "_law_right" 1 F__law_right [] := callLd0 (qual := "_law_right") FD__law_right M__law_right G__law_right b_c__law_right_1
  have G_law := ok_law (P := P) (w := w) (base := base) (C := ⟨K, fun i => ([f_filled_expression, f_filled_path, f_filled_body] : List Addr).getD i 0, fun _ => 0⟩) TT c__law_right_1 c__law_rng_2 FD_law
  exact G_law
end EV


namespace RPX
open PySem PySem.W PyProof.Rows in
set_option maxRecDepth 100000 in
set_option maxHeartbeats 0 in
theorem end_holds : PySem.Challenge.rw_evermeant_k24_there_in_inner_modules.Holds := by
  w_on; o_law; k_head; (case hw => w_witness2)
  k_fill
  refine RP.walk_P (l := PySem.Challenge.rw_evermeant_k24_there_in_inner_modules) (n := 63) (k := 29) (x := "_law_script") (F := fun _ => EV.F_law) rfl (by decide) rfl ⟨rfl, by decide, by decide⟩ (fun w h Y => PySem.W.kIn_of Y) ?F ?hF
  case hF => exact fun _ ns hn => EV.law_true ns hn
  case F =>
    intro w mg fa h KX G hmg
    refine' EV.all_mk KX G hmg ?z_abs ?z_all ?z_dict ?z_divmod ?z_enumerate ?z_isinstance ?z_len ?z_list ?z_max ?z_min ?z_range ?z_repr ?z_str ?z_tuple ?z_zip ?g_LETTERS ?g_MOST_LETTERS ?a_is_made_of ?l_is_made_of ?c_is_made_of ?k_is_made_of ?a_is_name ?l_is_name ?c_is_name ?k_is_name ?a_filled_path ?l_filled_path ?c_filled_path ?k_filled_path ?a_filled_expression ?l_filled_expression ?c_filled_expression ?k_filled_expression ?a_filled_item ?l_filled_item ?c_filled_item ?k_filled_item ?a_filled_rest ?l_filled_rest ?c_filled_rest ?k_filled_rest ?a_filled_body ?l_filled_body ?c_filled_body ?k_filled_body ?a_are_arguments ?l_are_arguments ?c_are_arguments ?k_are_arguments ?a_filled ?l_filled ?c_filled ?k_filled ?a_placed ?l_placed ?c_placed ?k_placed ?a_expansion ?l_expansion ?c_expansion ?k_expansion ?a__law_rng ?l__law_rng ?c__law_rng ?k__law_rng ?a__law_draw ?l__law_draw ?c__law_draw ?k__law_draw ?a__law_name ?l__law_name ?c__law_name ?k__law_name ?a__law_names ?l__law_names ?c__law_names ?k__law_names ?a__law_spot ?l__law_spot ?c__law_spot ?k__law_spot ?a__law_macro ?l__law_macro ?c__law_macro ?k__law_macro ?a__law_right ?l__law_right ?c__law_right ?k__law_right ?a_law ?l_law ?c_law ?k_law
    (case z_abs => k_is)
    (case z_all => k_is)
    (case z_dict => k_is)
    (case z_divmod => k_is)
    (case z_enumerate => k_is)
    (case z_isinstance => k_is)
    (case z_len => k_is)
    (case z_list => k_is)
    (case z_max => k_is)
    (case z_min => k_is)
    (case z_range => k_is)
    (case z_repr => k_is)
    (case z_str => k_is)
    (case z_tuple => k_is)
    (case z_zip => k_is)
    (case g_LETTERS => k_is)
    (case g_MOST_LETTERS => k_is)
    (case a_is_made_of => k_is)
    (case l_is_made_of => k_is)
    (case c_is_made_of => k_is)
    (case k_is_made_of => k_is)
    (case a_is_name => k_is)
    (case l_is_name => k_is)
    (case c_is_name => k_is)
    (case k_is_name => k_is)
    (case a_filled_path => k_is)
    (case l_filled_path => k_is)
    (case c_filled_path => k_is)
    (case k_filled_path => k_is)
    (case a_filled_expression => k_is)
    (case l_filled_expression => k_is)
    (case c_filled_expression => k_is)
    (case k_filled_expression => k_is)
    (case a_filled_item => k_is)
    (case l_filled_item => k_is)
    (case c_filled_item => k_is)
    (case k_filled_item => k_is)
    (case a_filled_rest => k_is)
    (case l_filled_rest => k_is)
    (case c_filled_rest => k_is)
    (case k_filled_rest => k_is)
    (case a_filled_body => k_is)
    (case l_filled_body => k_is)
    (case c_filled_body => k_is)
    (case k_filled_body => k_is)
    (case a_are_arguments => k_is)
    (case l_are_arguments => k_is)
    (case c_are_arguments => k_is)
    (case k_are_arguments => k_is)
    (case a_filled => k_is)
    (case l_filled => k_is)
    (case c_filled => k_is)
    (case k_filled => k_is)
    (case a_placed => k_is)
    (case l_placed => k_is)
    (case c_placed => k_is)
    (case k_placed => k_is)
    (case a_expansion => k_is)
    (case l_expansion => k_is)
    (case c_expansion => k_is)
    (case k_expansion => k_is)
    (case a__law_rng => k_is)
    (case l__law_rng => k_is)
    (case c__law_rng => k_is)
    (case k__law_rng => k_is)
    (case a__law_draw => k_is)
    (case l__law_draw => k_is)
    (case c__law_draw => k_is)
    (case k__law_draw => k_is)
    (case a__law_name => k_is)
    (case l__law_name => k_is)
    (case c__law_name => k_is)
    (case k__law_name => k_is)
    (case a__law_names => k_is)
    (case l__law_names => k_is)
    (case c__law_names => k_is)
    (case k__law_names => k_is)
    (case a__law_spot => k_is)
    (case l__law_spot => k_is)
    (case c__law_spot => k_is)
    (case k__law_spot => k_is)
    (case a__law_macro => k_is)
    (case l__law_macro => k_is)
    (case c__law_macro => k_is)
    (case k__law_macro => k_is)
    (case a__law_right => k_is)
    (case l__law_right => k_is)
    (case c__law_right => k_is)
    (case k__law_right => k_is)
    (case a_law => k_is)
    (case l_law => k_is)
    (case c_law => k_is)
    (case k_law => k_is)
    all_goals exact default
end RPX
theorem PySem.Challenge.cw_evermeant_k24_there_in_inner_modules_holds : PySem.Challenge.rw_evermeant_k24_there_in_inner_modules.Holds := by
  exact RPX.end_holds
