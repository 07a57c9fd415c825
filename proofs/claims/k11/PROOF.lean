import PyProof.Rows.All
import HandS.ForMost
import HandS.ForExc
import HandS.Flow
import HandS.TupAny
import HandS.TupMul
import HandS.IsInst
import HandS.Star
import KE.KUnpackStar
import HandS.Defaults
import HandS.CallSlots
import HandS.Ends
import PySem.Challenge.RW_evermeant_k11_names_words_places_paths
set_option Elab.async false
set_option linter.all false
set_option maxRecDepth 100000
set_option autoImplicit false
/-! EvA: an evaluator's values, its heap, and how they stand for the hand layer's values and abstract heap. -/
namespace EV
open PySem PySem.Spec PyProof.Rows L2

/-- built-in types that are asked for -/
inductive Ty where
  | int | str | bool | tuple | list | dict
  deriving DecidableEq
def Ty.nm : Ty → String
  | .int => "int" | .str => "str" | .bool => "bool" | .tuple => "tuple" | .list => "list" | .dict => "dict"
/-- a value: data (tuples and lists that nobody changes any more are data, too), a reference to an object that changes, a def -/
inductive D where
  | non | bl (b : Bool) | int (i : Int) | str (s : Str)
  | tup (xs : List D) | lst (xs : List D)
  | ref (n : Nat)
  | fn (n : Nat)
  | ty (t : Ty)
  | cl (n : Nat)
  /-- the law's script -/
  | scr (ns : List Int)
  /-- a dict that nobody changes any more: its keys, their values -/
  | dic (ks : List Key) (vs : List D)

/-- an object that changes -/
inductive MO where
  | lst (xs : List D)
  | dic (ks : List Key) (vs : List D)
  | dead

abbrev Hd := List MO

/-- an error of the program: its class's number, its fields -/
structure Exn where
  cls : Nat
  fs : List (Str × D)

inductive Res (α : Type) where
  | ok (a : α) (h : Hd)
  | exc (e : Exn) (h : Hd)
  | bad

abbrev Env := List (Option D)
abbrev M (α : Type) := Env → Hd → Res α

@[inline] def Res.bind {α β : Type} : Res α → (α → Hd → Res β) → Res β
  | .ok a h, f => f a h
  | .exc e h, _ => .exc e h
  | .bad, _ => .bad

@[simp] theorem Res.bind_ok {α β : Type} (a : α) (h : Hd) (f : α → Hd → Res β) : (Res.ok a h).bind f = f a h := rfl
@[simp] theorem Res.bind_bad {α β : Type} (f : α → Hd → Res β) : (Res.bad : Res α).bind f = .bad := rfl
@[simp] theorem Res.bind_exc {α β : Type} (e : Exn) (h : Hd) (f : α → Hd → Res β) : (Res.exc e h : Res α).bind f = .exc e h := rfl

/-- where the program's defs and classes stand -/
structure Ctx where
  K : PySem.W.Frag
  fa : Nat → Addr
  ca : Nat → Addr

/-- where the objects that change stand (none: it changes no more); lists that are being made, out of sight -/
structure Rho where
  r : List (Option Addr)
  hid : List Addr
/-- no object that changes stands at a -/
def Unr (ρ : Rho) (a : Addr) : Prop := ∀ n : Nat, ρ.r[n]? ≠ some (some a)
def Unm (ρ : Rho) (a : Addr) : Prop := Unr ρ a ∧ a ∉ ρ.hid
/-- a list, a tuple of the written part -/
def KL (K : PySem.W.Frag) (a : Addr) (xs : List V) : Prop :=
  ∃ (o : Obj) (its : Array Value) (n : Nat), K.lookup a = some o ∧ o.cls = .type "list" ∧ o.dict = none ∧ o.data = .seq its n ∧ its.size ≤ sizeLine ∧ Vals xs its.toList
def KT (K : PySem.W.Frag) (a : Addr) (xs : List V) : Prop :=
  ∃ (o : Obj) (its : Array Value) (n : Nat), K.lookup a = some o ∧ o.cls = .type "tuple" ∧ o.data = .seq its n ∧ its.size ≤ sizeLine ∧ Vals xs its.toList
def FL (C : Ctx) (ρ : Rho) (H : Hp) (a : Addr) (xs : List V) : Prop := (Rd H a (.lst xs) ∧ Unm ρ a) ∨ KL C.K a xs
def FT (C : Ctx) (ρ : Rho) (H : Hp) (a : Addr) (xs : List V) : Prop := (Rd H a (.tup xs) ∧ Unm ρ a) ∨ KT C.K a xs
theorem FL.sq {C : Ctx} {ρ : Rho} {H : Hp} {a : Addr} {xs : List V} (h : FL C ρ H a xs) : SqL C.K H a xs := h.elim (fun h => .inl h.1) .inr
theorem FT.sq {C : Ctx} {ρ : Rho} {H : Hp} {a : Addr} {xs : List V} (h : FT C ρ H a xs) : SqT C.K H a xs := h.elim (fun h => .inl h.1) .inr

mutual
def Rel (C : Ctx) (ρ : Rho) (H : Hp) : D → V → Prop
  | .non, v => v = .non
  | .bl b, v => v = .bl b
  | .int i, v => v = .int i
  | .str s, v => v = .str s ∧ s.length ≤ sizeLine
  | .tup xs, v => ∃ a vs, v = .ref a ∧ FT C ρ H a vs ∧ RelL C ρ H xs vs ∧ xs.length ≤ sizeLine
  | .lst xs, v => ∃ a vs, v = .ref a ∧ (H a = some (.lst vs) ∧ Unm ρ a) ∧ RelL C ρ H xs vs ∧ xs.length ≤ sizeLine
  | .ref n, v => ∃ a, v = .ref a ∧ (ρ.r[n]? = some (some a) ∨ ρ.r[n]? = some none)
  | .fn n, v => v = .ref (C.fa n)
  | .ty t, v => v = .ty t.nm
  | .cl n, v => v = .ref (C.ca n)
  | .scr ns, v => ∃ a, v = .ref a ∧ FL C ρ H a (ns.map V.int) ∧ ns.length ≤ sizeLine
  | .dic ks ds, v => ∃ a vs, v = .ref a ∧ (H a = some (.dK (ks.zip vs)) ∧ Unm ρ a) ∧ RelL C ρ H ds vs ∧ ks.length = ds.length
def RelL (C : Ctx) (ρ : Rho) (H : Hp) : List D → List V → Prop
  | [], vs => vs = []
  | d :: ds, vs => ∃ v r, vs = v :: r ∧ Rel C ρ H d v ∧ RelL C ρ H ds r
end

/-- an object that changes, as the abstract heap has it -/
def ORel (C : Ctx) (ρ : Rho) (H : Hp) : MO → Option HO → Prop
  | .lst xs, o => ∃ vs, o = some (.lst vs) ∧ RelL C ρ H xs vs ∧ xs.length ≤ sizeLine
  | .dic ks ds, o => ∃ vs, o = some (.dK (ks.zip vs)) ∧ RelL C ρ H ds vs ∧ ks.length = ds.length
  | .dead, _ => False

structure SimH (C : Ctx) (ρ : Rho) (H : Hp) (hd : Hd) : Prop where
  len : ρ.r.length = hd.length
  inj : ∀ (m n : Nat) (a : Addr), ρ.r[m]? = some (some a) → ρ.r[n]? = some (some a) → m = n
  at_ : ∀ (n : Nat) (a : Addr), ρ.r[n]? = some (some a) → ∃ o, hd[n]? = some o ∧ ORel C ρ H o (H a)
  live : ∀ (n : Nat) (o : MO), hd[n]? = some o → ρ.r[n]? = some none → o = .dead
  hidS : ∀ a ∈ ρ.hid, H a ≠ none
  apart : ∀ (n : Nat) (a : Addr), ρ.r[n]? = some (some a) → a ∉ ρ.hid

/-- later: what was there and does not change is as it was -/
structure Ext (ρ ρ' : Rho) (H H' : Hp) : Prop where
  le : ρ.r.length ≤ ρ'.r.length
  old : ∀ n : Nat, n < ρ.r.length → ρ'.r[n]? = ρ.r[n]? ∨ ρ'.r[n]? = some none
  new : ∀ (n : Nat) (a : Addr), ρ.r.length ≤ n → ρ'.r[n]? = some (some a) → H a = none
  keep : ∀ a o, H a = some o → Unr ρ a → H' a = some o
  dom : ∀ a, H' a = none → H a = none
  hid : ρ'.hid = ρ.hid

section
variable {C : Ctx} {ρ ρ' ρ'' : Rho} {H H' H'' : Hp} {hd hd' : Hd}

theorem Ext.refl : Ext ρ ρ H H := ⟨Nat.le_refl _, fun _ _ => .inl rfl, fun n a h e => (by
  rw [List.getElem?_eq_none h] at e
  cases e), fun _ _ e _ => e, fun _ e => e, rfl⟩

theorem Unr.ext {a : Addr} {o : HO} (x : Ext ρ ρ' H H') (h : H a = some o) (f : Unr ρ a) : Unr ρ' a := by
  intro n e
  by_cases hn : n < ρ.r.length
  · rcases x.old n hn with q | q
    · rw [q] at e; exact f n e
    · rw [q] at e; cases e
  · have := x.new n a (Nat.le_of_not_lt hn) e
    rw [h] at this; cases this

theorem Unm.ext {a : Addr} {o : HO} (x : Ext ρ ρ' H H') (h : H a = some o) (f : Unm ρ a) : Unm ρ' a := ⟨f.1.ext x h, by rw [x.hid]; exact f.2⟩

theorem Ext.trans (x : Ext ρ ρ' H H') (y : Ext ρ' ρ'' H' H'') : Ext ρ ρ'' H H'' where
  le := Nat.le_trans x.le y.le
  old := fun n hn => by
    rcases y.old n (Nat.lt_of_lt_of_le hn x.le) with q | q
    · rw [q]; exact x.old n hn
    · exact .inr q
  new := fun n a hn e => by
    by_cases hm : n < ρ'.r.length
    · rcases y.old n hm with q | q
      · rw [q] at e; exact x.new n a hn e
      · rw [q] at e; cases e
    · exact x.dom a (y.new n a (Nat.le_of_not_lt hm) e)
  keep := fun a o e f => y.keep a o (x.keep a o e f) (f.ext x e)
  dom := fun a e => x.dom a (y.dom a e)
  hid := y.hid.trans x.hid

/-- what a value leans on is kept -/
structure Keeps (ρ ρ' : Rho) (H H' : Hp) : Prop where
  frz : ∀ a o, H a = some o → Unm ρ a → H' a = some o ∧ Unm ρ' a
  old : ∀ n : Nat, n < ρ.r.length → ρ'.r[n]? = ρ.r[n]? ∨ ρ'.r[n]? = some none
theorem Ext.keeps (x : Ext ρ ρ' H H') : Keeps ρ ρ' H H' := ⟨fun a o h f => ⟨x.keep a o h f.1, f.ext x h⟩, x.old⟩
theorem Keeps.refl : Keeps ρ ρ H H := Ext.refl.keeps
theorem Keeps.trans (x : Keeps ρ ρ' H H') (y : Keeps ρ' ρ'' H' H'') (hl : ρ.r.length ≤ ρ'.r.length) : Keeps ρ ρ'' H H'' :=
  ⟨fun a o h f => let ⟨h1, f1⟩ := x.frz a o h f; y.frz a o h1 f1, fun n hn => by
    rcases y.old n (Nat.lt_of_lt_of_le hn hl) with q | q
    · rw [q]; exact x.old n hn
    · exact .inr q⟩
theorem Rd.keeps {a : Addr} {u : HO} (x : Keeps ρ ρ' H H') (h : Rd H a u ∧ Unm ρ a) : Rd H' a u ∧ Unm ρ' a := by
  obtain ⟨h | ⟨o, h⟩, f⟩ := h
  · exact ⟨.inl (x.frz _ _ h f).1, (x.frz _ _ h f).2⟩
  · exact ⟨.inr ⟨o, (x.frz _ _ h f).1⟩, (x.frz _ _ h f).2⟩
theorem FL.keeps {a : Addr} {xs : List V} (x : Keeps ρ ρ' H H') (h : FL C ρ H a xs) : FL C ρ' H' a xs := h.elim (fun h => .inl (Rd.keeps x h)) .inr
theorem FT.keeps {a : Addr} {xs : List V} (x : Keeps ρ ρ' H H') (h : FT C ρ H a xs) : FT C ρ' H' a xs := h.elim (fun h => .inl (Rd.keeps x h)) .inr

mutual
theorem Rel.keeps (x : Keeps ρ ρ' H H') : ∀ (d : D) (v : V), Rel C ρ H d v → Rel C ρ' H' d v
  | .non, _, h => h
  | .bl _, _, h => h
  | .int _, _, h => h
  | .str _, _, h => by simp only [Rel] at h ⊢; exact h
  | .fn _, _, h => h
  | .ty _, _, h => h
  | .cl _, _, h => h
  | .tup xs, v, h => by
    simp only [Rel] at h ⊢
    obtain ⟨a, vs, e, f, r, z⟩ := h
    exact ⟨a, vs, e, f.keeps x, RelL.keeps x xs vs r, z⟩
  | .lst xs, v, h => by
    simp only [Rel] at h ⊢
    obtain ⟨a, vs, e, ⟨f, g⟩, r, z⟩ := h
    exact ⟨a, vs, e, x.frz _ _ f g, RelL.keeps x xs vs r, z⟩
  | .scr ns, v, h => by
    simp only [Rel] at h ⊢
    obtain ⟨a, e, f, z⟩ := h
    exact ⟨a, e, f.keeps x, z⟩
  | .dic ks ds, v, h => by
    simp only [Rel] at h ⊢
    obtain ⟨a, vs, e, ⟨f, g⟩, r, z⟩ := h
    exact ⟨a, vs, e, x.frz _ _ f g, RelL.keeps x ds vs r, z⟩
  | .ref n, v, h => by
    simp only [Rel] at h ⊢
    obtain ⟨a, e, f⟩ := h
    refine ⟨a, e, ?_⟩
    have hn : n < ρ.r.length := by
      rcases f with f | f <;> exact (List.getElem?_eq_some_iff.mp f).1
    rcases x.old n hn with q | q
    · rw [q]; exact f
    · exact .inr q
theorem RelL.keeps (x : Keeps ρ ρ' H H') : ∀ (ds : List D) (vs : List V), RelL C ρ H ds vs → RelL C ρ' H' ds vs
  | [], _, h => h
  | d :: ds, vs, h => by
    simp only [RelL] at h ⊢
    obtain ⟨v, r, e, h1, h2⟩ := h
    exact ⟨v, r, e, Rel.keeps x d v h1, RelL.keeps x ds r h2⟩
end
theorem Rel.ext (x : Ext ρ ρ' H H') (d : D) (v : V) (h : Rel C ρ H d v) : Rel C ρ' H' d v := Rel.keeps x.keeps d v h
theorem RelL.ext (x : Ext ρ ρ' H H') (ds : List D) (vs : List V) (h : RelL C ρ H ds vs) : RelL C ρ' H' ds vs := RelL.keeps x.keeps ds vs h

theorem RelL.length : ∀ {ds : List D} {vs : List V}, RelL C ρ H ds vs → ds.length = vs.length
  | [], _, h => by simp only [RelL] at h; rw [h]; rfl
  | d :: ds, vs, h => by
    simp only [RelL] at h
    obtain ⟨v, r, e, h1, h2⟩ := h
    rw [e, List.length_cons, List.length_cons, RelL.length h2]
theorem RelL.nil_iff {vs : List V} : RelL C ρ H [] vs ↔ vs = [] := by simp only [RelL]
theorem RelL.cons {d : D} {ds : List D} {v : V} {vs : List V} (h1 : Rel C ρ H d v) (h2 : RelL C ρ H ds vs) : RelL C ρ H (d :: ds) (v :: vs) := by
  simp only [RelL]; exact ⟨v, vs, rfl, h1, h2⟩
theorem RelL.nil : RelL C ρ H [] [] := by simp only [RelL]
theorem RelL.get : ∀ {ds : List D} {vs : List V} {i : Nat} {d : D}, RelL C ρ H ds vs → ds[i]? = some d → ∃ v, vs[i]? = some v ∧ Rel C ρ H d v
  | [], _, i, d, _, e => by simp at e
  | d :: ds, vs, i, d', h, e => by
    simp only [RelL] at h
    obtain ⟨v, r, rfl, h1, h2⟩ := h
    cases i with
    | zero => simp at e; subst e; exact ⟨v, by simp, h1⟩
    | succ i => 
      obtain ⟨w, q1, q2⟩ := RelL.get (i := i) h2 (by simpa using e)
      exact ⟨w, by simpa using q1, q2⟩
theorem RelL.append : ∀ {ds es : List D} {vs ws : List V}, RelL C ρ H ds vs → RelL C ρ H es ws → RelL C ρ H (ds ++ es) (vs ++ ws)
  | [], _, _, _, h, h' => by simp only [RelL] at h; subst h; exact h'
  | d :: ds, es, vs, ws, h, h' => by
    simp only [RelL] at h
    obtain ⟨v, r, rfl, h1, h2⟩ := h
    exact RelL.cons h1 (RelL.append h2 h')
theorem RelL.take : ∀ {ds : List D} {vs : List V} (n : Nat), RelL C ρ H ds vs → RelL C ρ H (ds.take n) (vs.take n)
  | [], _, n, h => by simp only [RelL] at h; subst h; simp [RelL]
  | d :: ds, vs, 0, h => by simp [RelL]
  | d :: ds, vs, n + 1, h => by
    simp only [RelL] at h
    obtain ⟨v, r, rfl, h1, h2⟩ := h
    exact RelL.cons h1 (RelL.take n h2)
theorem RelL.drop : ∀ {ds : List D} {vs : List V} (n : Nat), RelL C ρ H ds vs → RelL C ρ H (ds.drop n) (vs.drop n)
  | [], _, n, h => by simp only [RelL] at h; subst h; simp [RelL]
  | d :: ds, vs, 0, h => h
  | d :: ds, vs, n + 1, h => by
    simp only [RelL] at h
    obtain ⟨v, r, rfl, h1, h2⟩ := h
    exact RelL.drop n h2
theorem RelL.set {d : D} {v : V} (hr : Rel C ρ H d v) : ∀ {ds : List D} {vs : List V} (n : Nat), RelL C ρ H ds vs → RelL C ρ H (ds.set n d) (vs.set n v)
  | [], _, n, h => by simp only [RelL] at h; subst h; simp [RelL]
  | d' :: ds, vs, 0, h => by
    simp only [RelL] at h
    obtain ⟨w, r, rfl, h1, h2⟩ := h
    exact RelL.cons hr h2
  | d' :: ds, vs, n + 1, h => by
    simp only [RelL] at h
    obtain ⟨w, r, rfl, h1, h2⟩ := h
    exact RelL.cons h1 (RelL.set hr n h2)
theorem RelL.eraseIdx : ∀ {ds : List D} {vs : List V} (n : Nat), RelL C ρ H ds vs → RelL C ρ H (ds.eraseIdx n) (vs.eraseIdx n)
  | [], _, n, h => by simp only [RelL] at h; subst h; simp [RelL]
  | d' :: ds, vs, 0, h => by
    simp only [RelL] at h
    obtain ⟨w, r, rfl, h1, h2⟩ := h
    exact h2
  | d' :: ds, vs, n + 1, h => by
    simp only [RelL] at h
    obtain ⟨w, r, rfl, h1, h2⟩ := h
    exact RelL.cons h1 (RelL.eraseIdx n h2)

theorem ORel.keeps {o : MO} {u : Option HO} (x : Keeps ρ ρ' H H') (h : ORel C ρ H o u) : ORel C ρ' H' o u := by
  cases o with
  | lst xs => obtain ⟨vs, e, r, z⟩ := h; exact ⟨vs, e, RelL.keeps x _ _ r, z⟩
  | dic ks xs => obtain ⟨vs, e, r, z⟩ := h; exact ⟨vs, e, RelL.keeps x _ _ r, z⟩
  | dead => exact h.elim
theorem ORel.ext {o : MO} {u : Option HO} (x : Ext ρ ρ' H H') (h : ORel C ρ H o u) : ORel C ρ' H' o u := h.keeps x.keeps

/-- the frame's values -/
structure EnvRel (C : Ctx) (ρ : Rho) (H : Hp) (env : Env) (σ : L2.St) : Prop where
  len : env.length = σ.length
  at_ : ∀ (i : Nat) d, env[i]? = some (some d) → ∃ v, σ[i]? = some (some v) ∧ Rel C ρ H d v
theorem EnvRel.keeps {env : Env} {σ : L2.St} (x : Keeps ρ ρ' H H') (h : EnvRel C ρ H env σ) : EnvRel C ρ' H' env σ :=
  ⟨h.len, fun i d e => let ⟨v, e1, r⟩ := h.at_ i d e; ⟨v, e1, Rel.keeps x _ _ r⟩⟩
theorem EnvRel.ext {env : Env} {σ : L2.St} (x : Ext ρ ρ' H H') (h : EnvRel C ρ H env σ) : EnvRel C ρ' H' env σ := h.keeps x.keeps
theorem EnvRel.set {env : Env} {σ : L2.St} {d : D} {v : V} (h : EnvRel C ρ H env σ) (i : Nat) (r : Rel C ρ H d v) : EnvRel C ρ H (env.set i (some d)) (σ.set i (some v)) := by
  refine ⟨by simp [h.len], fun j e q => ?_⟩
  by_cases hj : i = j
  · subst hj
    by_cases hi : i < env.length
    · rw [List.getElem?_set_self hi] at q
      cases q
      exact ⟨v, List.getElem?_set_self (by rw [← h.len]; exact hi), r⟩
    · rw [List.getElem?_eq_none (by simpa using hi)] at q; cases q
  · rw [List.getElem?_set_ne hj] at q ⊢
    exact h.at_ j e q
/-- slots forgotten on both sides -/
theorem EnvRel.forget {env : Env} {σ : L2.St} (h : EnvRel C ρ H env σ) (i : Nat) : EnvRel C ρ H (env.set i none) (σ.set i none) := by
  refine ⟨by simp [h.len], fun j e q => ?_⟩
  by_cases hj : i = j
  · subst hj
    by_cases hi : i < env.length
    · rw [List.getElem?_set_self hi] at q; cases q
    · rw [List.getElem?_eq_none (by simpa using hi)] at q; cases q
  · rw [List.getElem?_set_ne hj] at q ⊢
    exact h.at_ j e q
end
end EV


/-! EvB: what is wanted behind an evaluation; the heap's steps. -/
namespace EV
open PySem PySem.Spec PyProof.Rows L2

abbrev RhoT := Rho
/-- an error's fields -/
def XRel (C : Ctx) (ρ : RhoT) (H : Hp) (x : Exn) (dd : Option Addr) : Prop :=
  ∃ a vs, dd = some a ∧ H a = some (.xd vs) ∧ vs.map (·.1) = x.fs.map (·.1) ∧ RelL C ρ H (x.fs.map (·.2)) (vs.map (·.2))
/-- what is wanted behind an evaluation -/
def PostX {α β : Type} (C : Ctx) (R : RhoT → Hp → α → β → Prop) (ρ : RhoT) (H : Hp) (W : Value → Option Addr → Hp → Prop) (Q : β → Hp → Prop) : Res α → Prop
  | .ok d hd' => ∀ ρ' H' v, Ext ρ ρ' H H' → SimH C ρ' H' hd' → R ρ' H' d v → Q v H'
  | .exc x hd' => ∀ ρ' H' dd, Ext ρ ρ' H H' → SimH C ρ' H' hd' → XRel C ρ' H' x dd → W (.ref (C.ca x.cls)) dd H'
  | .bad => False
section
variable {α β γ δ : Type} {C : Ctx} {R : RhoT → Hp → α → β → Prop} {R1 : RhoT → Hp → γ → δ → Prop} {ρ ρ' : RhoT} {H H' : Hp} {hd hd' : Hd} {W : Value → Option Addr → Hp → Prop} {Q : β → Hp → Prop}
theorem PostX.ext {r : Res α} (x : Ext ρ ρ' H H') (p : PostX C R ρ H W Q r) : PostX C R ρ' H' W Q r := by
  cases r with
  | ok d h => exact fun ρ2 H2 v y => p ρ2 H2 v (x.trans y)
  | exc d h => exact fun ρ2 H2 v y => p ρ2 H2 v (x.trans y)
  | bad => exact p
theorem PostX.imp {r : Res α} {W' : Value → Option Addr → Hp → Prop} {Q' : β → Hp → Prop} (p : PostX C R ρ H W Q r) (hQ : ∀ v H, Q v H → Q' v H) (hW : ∀ c d H, W c d H → W' c d H) : PostX C R ρ H W' Q' r := by
  cases r with
  | ok d h => exact fun ρ2 H2 v y s r => hQ _ _ (p ρ2 H2 v y s r)
  | exc d h => exact fun ρ2 H2 v y s r => hW _ _ _ (p ρ2 H2 v y s r)
  | bad => exact p
/-- the first of two -/
theorem PostX.bind {r : Res γ} {f : γ → Hd → Res α} (p : PostX C R ρ H W Q (r.bind f)) :
    PostX C R1 ρ H W (fun v H1 => ∃ ρ1 hd1 d, Ext ρ ρ1 H H1 ∧ SimH C ρ1 H1 hd1 ∧ R1 ρ1 H1 d v ∧ PostX C R ρ1 H1 W Q (f d hd1)) r := by
  cases r with
  | ok d h => exact fun ρ2 H2 v y s r => ⟨ρ2, h, d, y, s, r, PostX.ext y p⟩
  | exc d h => exact p
  | bad => exact p

/-! ### the heap's steps -/
theorem ORel.some_of {o : MO} {u : Option HO} (h : ORel C ρ H o u) : u ≠ none := by
  intro e
  cases o with
  | lst xs => obtain ⟨vs, z, _⟩ := h; rw [e] at z; cases z
  | dic ks xs => obtain ⟨vs, z, _⟩ := h; rw [e] at z; cases z
  | dead => exact h
theorem SimH.unm {p : Addr} (s : SimH C ρ H hd) (hp : H p = none) : Unm ρ p := by
  refine ⟨fun n e => ?_, fun e => s.hidS p e hp⟩
  obtain ⟨o, _, q⟩ := s.at_ n p e
  exact q.some_of hp
theorem Ext.upd_new {p : Addr} {o : HO} (hp : H p = none) : Ext ρ ρ H (upd H p o) where
  le := Nat.le_refl _
  old := fun _ _ => .inl rfl
  new := fun n a h e => by rw [List.getElem?_eq_none h] at e; cases e
  keep := fun a u e _ => by rw [upd_ne (ne_of_none e hp)]; exact e
  dom := fun a e => by
    by_cases h : a = p
    · rw [h]; exact hp
    · rw [upd_ne h] at e; exact e
  hid := rfl
theorem upd_some {p a : Addr} {o : HO} (h : H a ≠ none) : upd H p o a ≠ none := by
  by_cases q : a = p
  · rw [q, upd_same]; exact fun z => nomatch z
  · rw [upd_ne q]; exact h
theorem SimH.upd_new {p : Addr} {o : HO} (s : SimH C ρ H hd) (hp : H p = none) : SimH C ρ (upd H p o) hd where
  len := s.len
  inj := s.inj
  live := s.live
  at_ := fun n a e => by
    obtain ⟨u, h1, h2⟩ := s.at_ n a e
    have ne : a ≠ p := fun z => (s.unm hp).1 n (z ▸ e)
    exact ⟨u, h1, by rw [upd_ne ne]; exact h2.ext (Ext.upd_new hp)⟩
  hidS := fun a ha => upd_some (s.hidS a ha)
  apart := s.apart
theorem rel_tup {xs : List D} {vs : List V} {p : Addr} (s : SimH C ρ H hd) (hp : H p = none) (r : RelL C ρ H xs vs) (z : xs.length ≤ sizeLine) : Rel C ρ (upd H p (.tup vs)) (.tup xs) (.ref p) := by
  simp only [Rel]
  exact ⟨p, vs, rfl, .inl ⟨.inl upd_same, s.unm hp⟩, RelL.ext (Ext.upd_new hp) _ _ r, z⟩
theorem rel_lst {xs : List D} {vs : List V} {p : Addr} (s : SimH C ρ H hd) (hp : H p = none) (r : RelL C ρ H xs vs) (z : xs.length ≤ sizeLine) : Rel C ρ (upd H p (.lst vs)) (.lst xs) (.ref p) := by
  simp only [Rel]
  exact ⟨p, vs, rfl, ⟨upd_same, s.unm hp⟩, RelL.ext (Ext.upd_new hp) _ _ r, z⟩
theorem get_snoc {l : List (Option Addr)} {x : Option Addr} {n : Nat} {y : Option Addr} (e : (l ++ [x])[n]? = some y) : l[n]? = some y ∨ (n = l.length ∧ y = x) := by
  by_cases h : n < l.length
  · rw [List.getElem?_append_left h] at e; exact .inl e
  · rw [List.getElem?_append_right (Nat.le_of_not_lt h)] at e
    have hz : n - l.length = 0 := by
      have := (List.getElem?_eq_some_iff.mp e).1
      simp at this; omega
    rw [hz] at e
    simp at e
    exact .inr ⟨by omega, e.symm⟩
abbrev Rho.push (ρ : Rho) (p : Addr) : Rho := ⟨ρ.r ++ [some p], ρ.hid⟩
theorem Ext.push {p : Addr} {o : HO} (hp : H p = none) : Ext ρ (ρ.push p) H (upd H p o) where
  le := by simp
  old := fun n h => .inl (List.getElem?_append_left h)
  new := fun n a h e => by
    rcases get_snoc e with z | ⟨_, z⟩
    · rw [List.getElem?_eq_none h] at z; cases z
    · cases z; exact hp
  keep := fun a u e _ => by rw [upd_ne (ne_of_none e hp)]; exact e
  dom := (Ext.upd_new (ρ := ρ) hp).dom
  hid := rfl
theorem SimH.pushO {p : Addr} {o : MO} {w : HO} (s : SimH C ρ H hd) (hp : H p = none) (r : ORel C ρ H o (some w)) : SimH C (ρ.push p) (upd H p w) (hd ++ [o]) where
  len := by simp [s.len]
  inj := fun m n a h1 h2 => by
    rcases get_snoc h1 with z1 | ⟨z1, z1'⟩ <;> rcases get_snoc h2 with z2 | ⟨z2, z2'⟩
    · exact s.inj m n a z1 z2
    · cases z2'; exact ((s.unm hp).1 m z1).elim
    · cases z1'; exact ((s.unm hp).1 n z2).elim
    · omega
  at_ := fun n a e => by
    rcases get_snoc e with z | ⟨z, z'⟩
    · obtain ⟨u, h1, h2⟩ := s.at_ n a z
      have ne : a ≠ p := fun q => (s.unm hp).1 n (q ▸ z)
      exact ⟨u, by rw [List.getElem?_append_left (List.getElem?_eq_some_iff.mp h1).1]; exact h1, by rw [upd_ne ne]; exact h2.ext (Ext.push hp)⟩
    · cases z'
      exact ⟨o, by rw [z, s.len]; simp, by rw [upd_same]; exact r.ext (Ext.push hp)⟩
  live := fun n o e h => by
    rcases get_snoc h with z | ⟨_, z⟩
    · have hn : n < hd.length := by rw [← s.len]; exact (List.getElem?_eq_some_iff.mp z).1
      rw [List.getElem?_append_left hn] at e
      exact s.live n o e z
    · cases z
  hidS := fun a ha => upd_some (s.hidS a ha)
  apart := fun n a e ha => by
    rcases get_snoc e with z | ⟨_, z⟩
    · exact s.apart n a z ha
    · cases z; exact s.hidS p ha hp
theorem SimH.push {p : Addr} {xs : List D} {vs : List V} (s : SimH C ρ H hd) (hp : H p = none) (r : RelL C ρ H xs vs) (hz : xs.length ≤ sizeLine) : SimH C (ρ.push p) (upd H p (.lst vs)) (hd ++ [.lst xs]) :=
  s.pushO hp ⟨vs, rfl, r, hz⟩
theorem rel_new (s : SimH C ρ H hd) {p : Addr} {H' : Hp} : Rel C (ρ.push p) H' (.ref hd.length) (.ref p) := by
  simp only [Rel]
  exact ⟨p, rfl, .inl (by rw [← s.len]; simp)⟩
theorem Ext.store {n : Nat} {a : Addr} {o : HO} {u : HO} (h : ρ.r[n]? = some (some a)) (ha : H a = some u) : Ext ρ ρ H (upd H a o) where
  le := Nat.le_refl _
  old := fun _ _ => .inl rfl
  new := fun n a h e => by rw [List.getElem?_eq_none h] at e; cases e
  keep := fun b u e f => by
    have ne : b ≠ a := fun z => f n (by rw [z]; exact h)
    rw [upd_ne ne]; exact e
  dom := fun b e => by
    by_cases q : b = a
    · rw [q, upd_same] at e; cases e
    · rw [upd_ne q] at e; exact e
  hid := rfl
theorem SimH.storeO {n : Nat} {a : Addr} {o : MO} {w u : HO} (s : SimH C ρ H hd) (h : ρ.r[n]? = some (some a)) (ha : H a = some u) (r : ORel C ρ H o (some w)) : SimH C ρ (upd H a w) (hd.set n o) where
  len := by simp [s.len]
  inj := s.inj
  at_ := fun m b e => by
    obtain ⟨w, h1, h2⟩ := s.at_ m b e
    by_cases q : n = m
    · subst q
      rw [h] at e; cases e
      exact ⟨o, List.getElem?_set_self (List.getElem?_eq_some_iff.mp h1).1, by rw [upd_same]; exact r.ext (Ext.store h ha)⟩
    · have ne : b ≠ a := fun z => q (s.inj n m a h (z ▸ e))
      exact ⟨w, by rw [List.getElem?_set_ne q]; exact h1, by rw [upd_ne ne]; exact h2.ext (Ext.store h ha)⟩
  live := fun m o e z => by
    by_cases q : n = m
    · subst q; rw [h] at z; cases z
    · rw [List.getElem?_set_ne q] at e; exact s.live m o e z
  hidS := fun a ha => upd_some (s.hidS a ha)
  apart := s.apart
theorem SimH.store {n : Nat} {a : Addr} {xs : List D} {vs : List V} {u : HO} (s : SimH C ρ H hd) (h : ρ.r[n]? = some (some a)) (ha : H a = some u) (r : RelL C ρ H xs vs) (hz : xs.length ≤ sizeLine) : SimH C ρ (upd H a (.lst vs)) (hd.set n (.lst xs)) :=
  s.storeO h ha ⟨vs, rfl, r, hz⟩
abbrev Rho.drop (ρ : Rho) (n : Nat) : Rho := ⟨ρ.r.set n none, ρ.hid⟩
theorem drop_some {n m : Nat} {a : Addr} (h : (ρ.drop n).r[m]? = some (some a)) : n ≠ m ∧ ρ.r[m]? = some (some a) := by
  by_cases q : n = m
  · subst q
    have h' : (ρ.r.set n none)[n]? = some (some a) := h
    by_cases hn : n < ρ.r.length
    · rw [List.getElem?_set_self hn] at h'; cases h'
    · rw [List.getElem?_eq_none (by simpa using hn)] at h'; cases h'
  · exact ⟨q, by have h' : (ρ.r.set n none)[m]? = some (some a) := h; rw [List.getElem?_set_ne q] at h'; exact h'⟩
theorem Ext.freeze {n : Nat} : Ext ρ (ρ.drop n) H H where
  le := by simp
  old := fun m hm => by
    by_cases q : n = m
    · subst q; exact .inr (by show (ρ.r.set n none)[n]? = _; rw [List.getElem?_set_self hm])
    · exact .inl (by show (ρ.r.set n none)[m]? = _; rw [List.getElem?_set_ne q])
  new := fun m a hm e => by
    have : m < (ρ.r.set n none).length := (List.getElem?_eq_some_iff.mp e).1
    simp at this; omega
  keep := fun a o e _ => e
  dom := fun a e => e
  hid := rfl
theorem SimH.freeze {n : Nat} (s : SimH C ρ H hd) : SimH C (ρ.drop n) H (hd.set n .dead) where
  len := by simp [s.len]
  inj := fun m k a h1 h2 => s.inj m k a (drop_some h1).2 (drop_some h2).2
  at_ := fun m a h => by
    obtain ⟨q, h⟩ := drop_some h
    obtain ⟨o, h1, h2⟩ := s.at_ m a h
    exact ⟨o, by rw [List.getElem?_set_ne q]; exact h1, h2.ext Ext.freeze⟩
  live := fun m o e h => by
    by_cases q : n = m
    · subst q
      by_cases hn : n < hd.length
      · rw [List.getElem?_set_self hn] at e; cases e; rfl
      · rw [List.getElem?_eq_none (by simpa using hn)] at e; cases e
    · have h' : (ρ.r.set n none)[m]? = some none := h
      rw [List.getElem?_set_ne q] at e h'; exact s.live m o e h'
  hidS := s.hidS
  apart := fun m a h => s.apart m a (drop_some h).2
theorem SimH.unm_drop {n : Nat} {a : Addr} (s : SimH C ρ H hd) (h : ρ.r[n]? = some (some a)) : Unm (ρ.drop n) a :=
  ⟨fun m e => (drop_some e).1 (s.inj n m a h (drop_some e).2), s.apart n a h⟩

/-! ### a list in the making, out of sight -/
abbrev Rho.hide (ρ : Rho) (p : Addr) : Rho := ⟨ρ.r, p :: ρ.hid⟩
theorem Keeps.hide {p : Addr} {o : HO} (hp : H p = none) : Keeps ρ (ρ.hide p) H (upd H p o) :=
  ⟨fun a u h f => ⟨by rw [upd_ne (ne_of_none h hp)]; exact h, f.1, fun z => by
    rcases List.mem_cons.mp z with z | z
    · exact ne_of_none h hp z
    · exact f.2 z⟩, fun _ _ => .inl rfl⟩
theorem Keeps.unhide {p : Addr} : Keeps (ρ.hide p) ρ H H := ⟨fun a u h f => ⟨h, f.1, fun z => f.2 (List.mem_cons_of_mem _ z)⟩, fun _ _ => .inl rfl⟩
theorem Keeps.grow {p : Addr} {o : HO} : Keeps (ρ.hide p) (ρ.hide p) H (upd H p o) :=
  ⟨fun a u h f => ⟨by rw [upd_ne (fun z => f.2 (by rw [z]; exact List.mem_cons_self))]; exact h, f⟩, fun _ _ => .inl rfl⟩
theorem SimH.hide {p : Addr} {o : HO} (s : SimH C ρ H hd) (hp : H p = none) : SimH C (ρ.hide p) (upd H p o) hd where
  len := s.len
  inj := s.inj
  live := s.live
  at_ := fun n a e => by
    obtain ⟨u, h1, h2⟩ := s.at_ n a e
    have ne : a ≠ p := fun z => (s.unm hp).1 n (z ▸ e)
    exact ⟨u, h1, by rw [upd_ne ne]; exact h2.keeps (Keeps.hide hp)⟩
  hidS := fun a ha => by
    rcases List.mem_cons.mp ha with z | z
    · rw [z, upd_same]; exact fun q => nomatch q
    · exact upd_some (s.hidS a z)
  apart := fun n a e z => by
    rcases List.mem_cons.mp z with z | z
    · exact (s.unm hp).1 n (z ▸ e)
    · exact s.apart n a e z
theorem SimH.grow {p : Addr} {o : HO} (s : SimH C (ρ.hide p) H hd) : SimH C (ρ.hide p) (upd H p o) hd where
  len := s.len
  inj := s.inj
  live := s.live
  at_ := fun n a e => by
    obtain ⟨u, h1, h2⟩ := s.at_ n a e
    have ne : a ≠ p := fun z => s.apart n a e (by rw [z]; exact List.mem_cons_self)
    exact ⟨u, h1, by rw [upd_ne ne]; exact h2.keeps Keeps.grow⟩
  hidS := fun a ha => upd_some (s.hidS a ha)
  apart := s.apart
theorem SimH.unhide {p : Addr} (s : SimH C (ρ.hide p) H hd) : SimH C ρ H hd where
  len := s.len
  inj := s.inj
  live := s.live
  at_ := fun n a e => let ⟨u, h1, h2⟩ := s.at_ n a e; ⟨u, h1, h2.keeps Keeps.unhide⟩
  hidS := fun a ha => s.hidS a (List.mem_cons_of_mem _ ha)
  apart := fun n a e z => s.apart n a e (List.mem_cons_of_mem _ z)
/-- a list that was made out of sight is a new object that changes -/
theorem SimH.show_ {p : Addr} {xs : List D} {vs : List V} (s : SimH C (ρ.hide p) H hd) (hu : p ∉ ρ.hid) (hr : Unr ρ p) (h : H p = some (.lst vs)) (r : RelL C (ρ.hide p) H xs vs) (hz : xs.length ≤ sizeLine) : SimH C (ρ.push p) H (hd ++ [.lst xs]) where
  len := by simp [s.len]
  inj := fun m n a h1 h2 => by
    rcases get_snoc h1 with z1 | ⟨z1, z1'⟩ <;> rcases get_snoc h2 with z2 | ⟨z2, z2'⟩
    · exact s.inj m n a z1 z2
    · cases z2'; exact (hr m z1).elim
    · cases z1'; exact (hr n z2).elim
    · omega
  at_ := fun n a e => by
    have kp : Keeps (ρ.hide p) (ρ.push p) H H := ⟨fun a u h f => ⟨h, fun n e => by
      rcases get_snoc e with z | ⟨_, z⟩
      · exact f.1 n z
      · cases z; exact f.2 List.mem_cons_self, fun z => f.2 (List.mem_cons_of_mem _ z)⟩, fun n h => .inl (List.getElem?_append_left h)⟩
    rcases get_snoc e with z | ⟨z, z'⟩
    · obtain ⟨u, h1, h2⟩ := s.at_ n a z
      exact ⟨u, by rw [List.getElem?_append_left (List.getElem?_eq_some_iff.mp h1).1]; exact h1, h2.keeps kp⟩
    · cases z'
      exact ⟨.lst xs, by rw [z]; show (hd ++ [MO.lst xs])[ρ.r.length]? = _; rw [show ρ.r.length = hd.length from s.len]; simp, vs, h, RelL.keeps kp _ _ r, hz⟩
  live := fun n o e h => by
    rcases get_snoc h with z | ⟨_, z⟩
    · have hn : n < hd.length := by rw [← s.len]; exact (List.getElem?_eq_some_iff.mp z).1
      rw [List.getElem?_append_left hn] at e
      exact s.live n o e z
    · cases z
  hidS := fun a ha => s.hidS a (List.mem_cons_of_mem _ ha)
  apart := fun n a e ha => by
    rcases get_snoc e with z | ⟨_, z⟩
    · exact s.apart n a z (List.mem_cons_of_mem _ ha)
    · cases z; exact hu ha
/-- the list, the tuple that a value is -/
def lstOf (d : D) (h : Hd) : Option (List D) := match d with
  | .lst xs => some xs
  | .ref n => match h[n]? with
    | some (.lst xs) => some xs
    | _ => none
  | _ => none
def seqOf (d : D) (h : Hd) : Option (List D) := match d with
  | .tup xs => some xs
  | .scr ns => some (ns.map D.int)
  | d => lstOf d h
theorem SimH.lst_at {n : Nat} {a : Addr} {xs : List D} (s : SimH C ρ H hd) (h : hd[n]? = some (.lst xs)) (f : ρ.r[n]? = some (some a) ∨ ρ.r[n]? = some none) : ρ.r[n]? = some (some a) ∧ ∃ vs, H a = some (.lst vs) ∧ RelL C ρ H xs vs ∧ xs.length ≤ sizeLine := by
  rcases f with f | f
  · obtain ⟨o, h1, h2⟩ := s.at_ n a f
    rw [h] at h1; cases h1
    exact ⟨f, h2⟩
  · have := s.live n _ h f
    cases this
theorem lst_of {d : D} {v : V} {xs : List D} (s : SimH C ρ H hd) (r : Rel C ρ H d v) (e : lstOf d hd = some xs) : ∃ a vs, v = .ref a ∧ H a = some (.lst vs) ∧ RelL C ρ H xs vs ∧ xs.length ≤ sizeLine := by
  cases d with
  | lst ys =>
    simp only [lstOf, Option.some.injEq] at e; subst e
    simp only [Rel] at r
    obtain ⟨a, vs, e, f, q⟩ := r
    exact ⟨a, vs, e, f.1, q⟩
  | ref n =>
    simp only [Rel] at r
    obtain ⟨a, e1, f⟩ := r
    simp only [lstOf] at e
    split at e
    · rename_i ys h
      cases e
      obtain ⟨_, vs, h2, h3⟩ := s.lst_at h f
      exact ⟨a, vs, e1, h2, h3⟩
    · cases e
  | _ => cases e
theorem tup_of {v : V} {xs : List D} (r : Rel C ρ H (.tup xs) v) : ∃ a vs, v = .ref a ∧ SqT C.K H a vs ∧ RelL C ρ H xs vs ∧ xs.length ≤ sizeLine := by
  simp only [Rel] at r
  obtain ⟨a, vs, e, f, q⟩ := r
  exact ⟨a, vs, e, f.sq, q⟩
theorem relL_ints : ∀ {ns : List Int}, RelL C ρ H (ns.map D.int) (ns.map V.int)
  | [] => RelL.nil
  | n :: ns => RelL.cons (by simp only [Rel]) relL_ints
theorem scr_of {v : V} {ns : List Int} (r : Rel C ρ H (.scr ns) v) : ∃ a, v = .ref a ∧ SqL C.K H a (ns.map V.int) ∧ ns.length ≤ sizeLine := by
  simp only [Rel] at r
  obtain ⟨a, e, f, q⟩ := r
  exact ⟨a, e, f.sq, q⟩
theorem seqOf_cases {d : D} {xs : List D} (e : seqOf d hd = some xs) : d = .tup xs ∨ (∃ ns, d = .scr ns ∧ xs = ns.map D.int) ∨ lstOf d hd = some xs := by
  cases d with
  | tup ys => simp only [seqOf, Option.some.injEq] at e; subst e; exact .inl rfl
  | scr ys => simp only [seqOf, Option.some.injEq] at e; subst e; exact .inr (.inl ⟨ys, rfl, rfl⟩)
  | lst ys => exact .inr (.inr e)
  | ref n => exact .inr (.inr e)
  | _ => cases e
theorem seq_of {d : D} {v : V} {xs : List D} (s : SimH C ρ H hd) (r : Rel C ρ H d v) (e : seqOf d hd = some xs) : ∃ a vs, v = .ref a ∧ (SqL C.K H a vs ∨ SqT C.K H a vs) ∧ RelL C ρ H xs vs ∧ xs.length ≤ sizeLine := by
  rcases seqOf_cases e with rfl | ⟨ns, rfl, rfl⟩ | e
  · obtain ⟨a, vs, e, f, q⟩ := tup_of r; exact ⟨a, vs, e, .inr f, q⟩
  · obtain ⟨a, e, f, z⟩ := scr_of r; exact ⟨a, _, e, .inl f, relL_ints, by simpa using z⟩
  · obtain ⟨a, vs, e, f, q⟩ := lst_of s r e; exact ⟨a, vs, e, .inl (.of f), q⟩
end
end EV


/-! EvC: expressions, tests, argument lists: the evaluator's combinators and that they tell the truth. -/
namespace EV
open PySem PySem.Spec PyProof.Rows L2

def tE (C : Ctx) (W : WX) (m : M D) : TE := fun σ H Q => ∃ ρ env hd, EnvRel C ρ H env σ ∧ SimH C ρ H hd ∧ PostX C (Rel C) ρ H (fun c d H' => W c d σ H') Q (m env hd)
def tT (C : Ctx) (W : WX) (m : M Bool) : TT := fun σ H Q => ∃ ρ env hd, EnvRel C ρ H env σ ∧ SimH C ρ H hd ∧ PostX C (fun _ _ b b' => b' = b) ρ H (fun c d H' => W c d σ H') Q (m env hd)
def tL (C : Ctx) (W : WX) (m : M (List D)) : TA := fun σ H Q => ∃ ρ env hd, EnvRel C ρ H env σ ∧ SimH C ρ H hd ∧ PostX C (RelL C) ρ H (fun c d H' => W c d σ H') Q (m env hd)

theorem weakE {X : Cx} {e : Expr} {t t' : TE} (h : PE X e t) (w : ∀ σ H Q, t' σ H Q → t σ H Q) : PE X e t' := ⟨fun pins s σ H Q I q => h.run pins s σ H Q I (w σ H Q q)⟩
theorem weakT {X : Cx} {e : Expr} {t t' : TT} (h : PT X e t) (w : ∀ σ H Q, t' σ H Q → t σ H Q) : PT X e t' := ⟨fun pins s σ H Q I q => h.run pins s σ H Q I (w σ H Q q)⟩
theorem weakW {X : Cx} {e : Expr} {t t' : TT} (h : PW X e t) (w : ∀ σ H Q, t' σ H Q → t σ H Q) : PW X e t' := ⟨fun wh pins s σ H Q I q => h.run wh pins s σ H Q I (w σ H Q q)⟩
theorem weakA {X : Cx} {es : List Expr} {t t' : TA} (h : PA X es t) (w : ∀ σ H Q, t' σ H Q → t σ H Q) : PA X es t' := ⟨fun pos pins s σ H Q I q => h.run pos pins s σ H Q I (w σ H Q q)⟩

section
variable {C : Ctx} {W : WX} {ρ : RhoT} {H : Hp} {hd : Hd} {env : Env} {σ : L2.St} {α β : Type} {R : RhoT → Hp → α → β → Prop} {Q : β → Hp → Prop}
/-- a part is evaluated, the rest goes on -/
theorem seqE {m : M D} {f : D → Hd → Res α} {Q' : VK} (er : EnvRel C ρ H env σ) (sh : SimH C ρ H hd) (p : PostX C R ρ H (fun c d H' => W c d σ H') Q ((m env hd).bind f))
    (k : ∀ v H1 ρ1 hd1 d, Ext ρ ρ1 H H1 → EnvRel C ρ1 H1 env σ → SimH C ρ1 H1 hd1 → Rel C ρ1 H1 d v → PostX C R ρ1 H1 (fun c d H' => W c d σ H') Q (f d hd1) → Q' v H1) : tE C W m σ H Q' :=
  ⟨ρ, env, hd, er, sh, (PostX.bind (R1 := Rel C) p).imp (fun v H1 ⟨ρ1, hd1, d, x, s, r, q⟩ => k v H1 ρ1 hd1 d x (er.ext x) s r q) fun _ _ _ z => z⟩
theorem seqT {m : M Bool} {f : Bool → Hd → Res α} {Q' : Bool → Hp → Prop} (er : EnvRel C ρ H env σ) (sh : SimH C ρ H hd) (p : PostX C R ρ H (fun c d H' => W c d σ H') Q ((m env hd).bind f))
    (k : ∀ b H1 ρ1 hd1, Ext ρ ρ1 H H1 → EnvRel C ρ1 H1 env σ → SimH C ρ1 H1 hd1 → PostX C R ρ1 H1 (fun c d H' => W c d σ H') Q (f b hd1) → Q' b H1) : tT C W m σ H Q' :=
  ⟨ρ, env, hd, er, sh, (PostX.bind (R1 := fun _ _ b b' => b' = b) p).imp (fun v H1 ⟨ρ1, hd1, d, x, s, r, q⟩ => by subst r; exact k v H1 ρ1 hd1 x (er.ext x) s q) fun _ _ _ z => z⟩
theorem seqL {m : M (List D)} {f : List D → Hd → Res α} {Q' : List V → Hp → Prop} (er : EnvRel C ρ H env σ) (sh : SimH C ρ H hd) (p : PostX C R ρ H (fun c d H' => W c d σ H') Q ((m env hd).bind f))
    (k : ∀ v H1 ρ1 hd1 d, Ext ρ ρ1 H H1 → EnvRel C ρ1 H1 env σ → SimH C ρ1 H1 hd1 → RelL C ρ1 H1 d v → PostX C R ρ1 H1 (fun c d H' => W c d σ H') Q (f d hd1) → Q' v H1) : tL C W m σ H Q' :=
  ⟨ρ, env, hd, er, sh, (PostX.bind (R1 := RelL C) p).imp (fun v H1 ⟨ρ1, hd1, d, x, s, r, q⟩ => k v H1 ρ1 hd1 d x (er.ext x) s r q) fun _ _ _ z => z⟩
theorem PostX.here {W' : Value → Option Addr → Hp → Prop} {d : α} {v : β} (p : PostX C R ρ H W' Q (.ok d hd)) (sh : SimH C ρ H hd) (r : R ρ H d v) : Q v H := p ρ H v Ext.refl sh r
end

/-! ### names and constants -/
def mvar (i : Nat) : M D := fun env h => match env[i]? with
  | some (some d) => .ok d h
  | _ => .bad
def mc (d : D) : M D := fun _ h => .ok d h
section
variable {X : Cx} {C : Ctx} {W : WX} {pos : Pos}
theorem ev_var {i : Nat} {x : Str} (h : PE X (.Name x pos) (tVar i)) : PE X (.Name x pos) (tE C W (mvar i)) := weakE h fun σ H Q ⟨ρ, env, hd, er, sh, p⟩ => by
  unfold mvar at p
  split at p
  · rename_i d e
    obtain ⟨v, e1, r⟩ := er.at_ i d e
    exact ⟨v, e1, p.here sh r⟩
  · exact p.elim
/-- a constant: its value stands in every heap -/
theorem ev_const {e : Expr} {d : D} {v : V} (h : PE X e (tC v)) (hr : ∀ ρ H, Rel C ρ H d v) : PE X e (tE C W (mc d)) := weakE h fun σ H Q ⟨ρ, env, hd, er, sh, p⟩ => p.here sh (hr ρ H)
end

/-! ### operators by values -/
/-- what an operator gives: a value, or a new list of these items -/
inductive OV where
  | v (d : D) | new (xs : List D)
def PostO (C : Ctx) (ρ : RhoT) (H : Hp) (hd : Hd) (Q : VK) : Option OV → Prop
  | none => False
  | some (.v d) => ∀ H' v, Ext ρ ρ H H' → SimH C ρ H' hd → Rel C ρ H' d v → Q v H'
  | some (.new xs) => ∀ p vs, xs.length ≤ sizeLine → H p = none → RelL C ρ H xs vs → Q (.ref p) (upd H p (.lst vs))
/-- m: a list that will be changed -/
def fin (m : Bool) (r : Option OV) (h : Hd) : Res D := match r with
  | none => .bad
  | some (.v d) => .ok d h
  | some (.new xs) => if m then .ok (.ref h.length) (h ++ [.lst xs]) else .ok (.lst xs) h
theorem PostX.fin {C : Ctx} {ρ : RhoT} {H : Hp} {hd : Hd} {Q : VK} {W' : Value → Option Addr → Hp → Prop} {m : Bool} {r : Option OV} (sh : SimH C ρ H hd) (p : PostX C (Rel C) ρ H W' Q (fin m r hd)) : PostO C ρ H hd Q r := by
  cases r with
  | none => exact p
  | some o =>
    cases o with
    | v d => exact fun H' v x s r => p ρ H' v x s r
    | new xs =>
      intro a vs hz hp rl
      cases m with
      | true => exact p _ _ _ (Ext.push hp) (sh.push hp rl hz) (rel_new sh)
      | false => exact p _ _ _ (Ext.upd_new hp) (sh.upd_new hp) (rel_lst sh hp rl hz)
theorem PostO.v {C : Ctx} {ρ : RhoT} {H : Hp} {hd : Hd} {Q : VK} {d : D} {v : V} (p : PostO C ρ H hd Q (some (.v d))) (sh : SimH C ρ H hd) (r : Rel C ρ H d v) : Q v H := p H v Ext.refl sh r

abbrev Op1 := D → Hd → Option OV
abbrev Op2 := D → D → Hd → Option OV
abbrev OpN := List D → Hd → Option OV
def rO1 (C : Ctx) (f : Op1) : V → Hp → VK → Prop := fun x H Q => ∃ ρ hd dx, SimH C ρ H hd ∧ Rel C ρ H dx x ∧ PostO C ρ H hd Q (f dx hd)
def rO2 (C : Ctx) (f : Op2) : R2 := fun x y H Q => ∃ ρ hd dx dy, SimH C ρ H hd ∧ Rel C ρ H dx x ∧ Rel C ρ H dy y ∧ PostO C ρ H hd Q (f dx dy hd)
def rON (C : Ctx) (f : OpN) : List V → Hp → VK → Prop := fun xs H Q => ∃ ρ hd ds, SimH C ρ H hd ∧ RelL C ρ H ds xs ∧ PostO C ρ H hd Q (f ds hd)

def mop1 (m : Bool) (f : Op1) (a : M D) : M D := fun env h => (a env h).bind fun x h1 => fin m (f x h1) h1
def mop2 (m : Bool) (f : Op2) (a b : M D) : M D := fun env h => (a env h).bind fun x h1 => (b env h1).bind fun y h2 => fin m (f x y h2) h2
section
variable {X : Cx} {C : Ctx} {W : WX} {pos : Pos} {a b c : Expr} {ma mb mc' : M D} {m : Bool}
theorem seq_op1 {f : Op1} {σ : L2.St} {H : Hp} {Q : VK} (h : tE C W (mop1 m f ma) σ H Q) : tE C W ma σ H fun x H1 => rO1 C f x H1 Q := by
  obtain ⟨ρ, env, hd, er, sh, p⟩ := h
  exact seqE er sh p fun v H1 ρ1 hd1 d x er1 sh1 r1 p1 => ⟨ρ1, hd1, d, sh1, r1, p1.fin sh1⟩
theorem seq_op2 {f : Op2} {σ : L2.St} {H : Hp} {Q : VK} (h : tE C W (mop2 m f ma mb) σ H Q) : tE C W ma σ H fun x H1 => tE C W mb σ H1 fun y H2 => rO2 C f x y H2 Q := by
  obtain ⟨ρ, env, hd, er, sh, p⟩ := h
  exact seqE er sh p fun v H1 ρ1 hd1 d x er1 sh1 r1 p1 => seqE er1 sh1 p1 fun v2 H2 ρ2 hd2 d2 x2 er2 sh2 r2 p2 => ⟨ρ2, hd2, d, d2, sh2, Rel.ext x2 _ _ r1, r2, p2.fin sh2⟩
theorem ev_bin {op : Operator} {f : Op2} (ho : OpR X (binaryOp op) (rO2 C f)) (ha : PE X a (tE C W ma)) (hb : PE X b (tE C W mb)) : PE X (.BinOp a op b pos) (tE C W (mop2 m f ma mb)) :=
  weakE (pe_op ho ha hb) fun _ _ _ h => seq_op2 h
theorem ev_cmp {op : CmpOp} {f : Op2} (ho : OpR X (compareOp op) (rO2 C f)) (ha : PE X a (tE C W ma)) (hb : PE X b (tE C W mb)) (hm : behindInMarks op b = false) : PE X (.Compare a [op] [b] pos) (tE C W (mop2 m f ma mb)) :=
  weakE (pe_cmpR ho ha hb hm) fun _ _ _ h => seq_op2 h
theorem ev_un {op : UnaryOp} {f : Op1} (ho : UnR X (unaryOp op) (rO1 C f)) (ha : PE X a (tE C W ma)) : PE X (.UnaryOp op a pos) (tE C W (mop1 m f ma)) :=
  weakE (pe_un ho ha) fun _ _ _ h => seq_op1 h
theorem ev_ix {f : Op2} (ho : IxR X (rO2 C f)) (ha : PE X a (tE C W ma)) (hb : PE X b (tE C W mb)) (hs : PlainIx b) : PE X (.Subscript a b pos) (tE C W (mop2 m f ma mb)) :=
  weakE (pe_ix ho ha hb hs) fun _ _ _ h => seq_op2 h
end
end EV


/-! EvD: the operators. -/
namespace EV
open PySem PySem.Spec PyProof.Rows L2

/-! ### data as the library has it -/
def keyPy : Key → PyData
  | .inl i => .int i
  | .inr x => .str x
mutual
def toPy : D → Option PyData
  | .non => some .none
  | .bl b => some (.bool b)
  | .int i => some (.int i)
  | .str s => some (.str s)
  | .tup xs => (toPyL xs).map .tuple
  | .lst xs => (toPyL xs).map .list
  | .dic ks xs => (toPyL xs).map fun ps => .dict ((ks.map keyPy).zip ps)
  | .scr ns => some (.list (ns.map .int))
  | _ => none
def toPyL : List D → Option (List PyData)
  | [] => some []
  | d :: ds => match toPy d with
    | none => none
    | some p => match toPyL ds with
      | none => none
      | some ps => some (p :: ps)
end
/-- data, or a list that changes, of data -/
def toPyT (h : Hd) : D → Option PyData
  | .ref n => match h[n]? with
    | some (.lst xs) => (toPyL xs).map .list
    | some (.dic ks xs) => (toPyL xs).map fun ps => .dict ((ks.map keyPy).zip ps)
    | _ => none
  | d => toPy d


def intsOf : List D → Option (List Int)
  | [] => some []
  | .int i :: ds => (intsOf ds).map (i :: ·)
  | _ => none
def blsOf : List D → Option (List Bool)
  | [] => some []
  | .bl b :: ds => (blsOf ds).map (b :: ·)
  | _ => none
def strsOf : List D → Option (List Str)
  | [] => some []
  | .str b :: ds => (strsOf ds).map (b :: ·)
  | _ => none
def flatD : D → Bool
  | .non => true | .bl _ => true | .int _ => true | .str _ => true | _ => false
/-- == of flat values -/
def eqF : D → D → Bool
  | .non, .non => true
  | .bl a, .bl b => a == b
  | .bl a, .int b => (if a then 1 else 0) == b
  | .int a, .bl b => a == (if b then 1 else 0)
  | .int a, .int b => a == b
  | .str a, .str b => a == b
  | _, _ => false
def truth (d : D) (h : Hd) : Option Bool := match d with
  | .non => some false
  | .bl b => some b
  | .int i => some (i != 0)
  | .str s => some ((s.length : Int) != 0)
  | d => (seqOf d h).map fun xs => !xs.isEmpty

/-! ### the operators -/
def oAdd : Op2
  | .int i, .int j, _ => some (.v (.int (i + j)))
  | .str a, .str b, _ => if a.length + b.length ≤ sizeLine then some (.v (.str (a ++ b))) else none
  | .tup a, .tup b, _ => if a.length + b.length ≤ sizeLine then some (.v (.tup (a ++ b))) else none
  | x, y, h => match lstOf x h, lstOf y h with
    | some a, some b => if a.length + b.length ≤ sizeLine then some (.new (a ++ b)) else none
    | _, _ => none
def oSub : Op2
  | .int i, .int j, _ => some (.v (.int (i - j)))
  | _, _, _ => none
def oMul : Op2
  | .int i, .int j, _ => if (-(2 ^ 64) < i ∧ i < 2 ^ 64) ∨ (-(2 ^ 64) < j ∧ j < 2 ^ 64) then some (.v (.int (i * j))) else none
  | .tup a, .int k, _ => if a ≠ [] ∧ 2 ≤ k ∧ k ≤ 1000 ∧ a.length ≤ 1000 then some (.v (.tup (List.replicate k.toNat a).flatten)) else none
  | x, .int k, h => match lstOf x h with
    | some a => if -(2 ^ 63) ≤ k ∧ k < 2 ^ 63 ∧ a.length * k.toNat ≤ sizeLine then some (.new (List.replicate k.toNat a).flatten) else none
    | none => none
  | _, _, _ => none
def oMod : Op2
  | .int i, .int j, _ => if 0 < j then some (.v (.int (i % j))) else none
  | _, _, _ => none
def oFdiv : Op2
  | .int i, .int j, _ => if 0 < j ∧ j < 1073741824 then some (.v (.int (i / j))) else none
  | _, _, _ => none
def oPow : Op2
  | .int i, .int j, _ => if 0 ≤ j ∧ j ≤ 1000000 ∧ i.natAbs < 2 ^ 64 then some (.v (.int (i ^ j.toNat))) else none
  | _, _, _ => none
def oCmp (p : Int → Int → Bool) : Op2
  | .int i, .int j, _ => some (.v (.bl (p i j)))
  | _, _, _ => none
abbrev oLt : Op2 := oCmp fun i j => decide (i < j)
abbrev oLe : Op2 := oCmp fun i j => decide (i ≤ j)
abbrev oGt : Op2 := oCmp fun i j => decide (j < i)
abbrev oGe : Op2 := oCmp fun i j => decide (j ≤ i)
/-- == by values: scalars of one kind, None, a text and a number; else data at any depth -/
def eqv (x y : D) (h : Hd) : Option Bool := match x, y with
  | .str a, .str b => some (a == b)
  | .int a, .int b => some (a == b)
  | .bl a, .bl b => some (a == b)
  | x, y => match toPyT h x, toPyT h y with
    | some p, some q => if SeqAt.shaped p = true ∧ SeqAt.shaped q = true then some (PyData.eqv p q) else none
    | _, _ => none
def oEq : Op2 := fun x y h => (eqv x y h).map fun b => .v (.bl b)
def oNe : Op2 := fun x y h => (eqv x y h).map fun b => .v (.bl !b)
def isIn (x y : D) (h : Hd) : Option Bool := match x, y with
  | .str a, .str b => some (!(Builtin.Str.occurrences b a 0 b.length 1).isEmpty)
  | x, y => match seqOf y h with
    | some ys => if flatD x = true ∧ ys.all flatD = true then some (ys.any fun y => eqF y x) else none
    | none => none
def oIn : Op2 := fun x y h => (isIn x y h).map fun b => .v (.bl b)
def oNotIn : Op2 := fun x y h => (isIn x y h).map fun b => .v (.bl !b)
def isNon : D → Bool
  | .non => true
  | _ => false
def oIsN : Op2 := fun x y _ => if isNon y then some (.v (.bl (isNon x))) else none
def oIsNot : Op2 := fun x y _ => if isNon y then some (.v (.bl (!isNon x))) else none
def oNeg : Op1
  | .int i, _ => some (.v (.int (-i)))
  | _, _ => none
def oIx : Op2
  | .str s, .int i, _ => (atI s.cps.toList i).map fun c => .v (.str ⟨#[c]⟩)
  | x, .int i, h => match seqOf x h with
    | some xs => (atI xs i).map .v
    | none => none
  | _, _, _ => none

section
variable {X : Cx} {C : Ctx} {ρ : RhoT} {H : Hp} {hd : Hd} {pins : List (Addr × Obj)} {σ : L2.St} {s : Shared}
theorem rel_int {i : Int} : Rel C ρ H (.int i) (.int i) := by simp only [Rel]
theorem rel_bl {i : Bool} : Rel C ρ H (.bl i) (.bl i) := by simp only [Rel]
theorem rel_non : Rel C ρ H .non .non := by simp only [Rel]
theorem rel_str {x : Str} (h : x.length ≤ sizeLine) : Rel C ρ H (.str x) (.str x) := by unfold Rel; exact ⟨rfl, h⟩
theorem of_int {i : Int} {v : V} (r : Rel C ρ H (.int i) v) : v = .int i := by simpa only [Rel] using r
theorem of_bl {i : Bool} {v : V} (r : Rel C ρ H (.bl i) v) : v = .bl i := by simpa only [Rel] using r
theorem of_non {v : V} (r : Rel C ρ H .non v) : v = .non := by simpa only [Rel] using r
theorem of_str {x : Str} {v : V} (r : Rel C ρ H (.str x) v) : v = .str x ∧ x.length ≤ sizeLine := by simpa only [Rel] using r
theorem len_app (a b : Str) : (a ++ b).length = a.length + b.length := by
  show (a.cps ++ b.cps).size = a.cps.size + b.cps.size
  exact Array.size_append
theorem relL_flatten {xs : List D} {vs : List V} (r : RelL C ρ H xs vs) : ∀ k : Nat, RelL C ρ H (List.replicate k xs).flatten (List.replicate k vs).flatten
  | 0 => by simp [RelL.nil]
  | k + 1 => by
    simp only [List.replicate_succ, List.flatten_cons]
    exact r.append (relL_flatten r k)

theorem ops_add (hK : X.K = C.K) : OpR X (binaryOp .Add) (rO2 C oAdd) := by
  intro pins s σ H x y v u Q I rx ry ⟨ρ, hd, dx, dy, sh, r1, r2, p⟩
  unfold oAdd at p
  split at p
  · cases of_int r1; cases of_int r2
    exact op_add pins s σ H _ _ v u Q I rx ry ⟨_, _, rfl, rfl, p.v sh rel_int⟩
  · split at p
    · rename_i hz
      cases (of_str r1).1; cases (of_str r2).1
      exact op_add_str pins s σ H _ _ v u Q I rx ry ⟨_, _, rfl, rfl, hz, p.v sh (rel_str (by rw [len_app]; exact hz))⟩
    · exact p.elim
  · rename_i a b
    split at p
    · rename_i hz
      obtain ⟨a1, v1, rfl, t1, q1, z1⟩ := tup_of r1
      obtain ⟨a2, v2, rfl, t2, q2, z2⟩ := tup_of r2
      have l1 := q1.length
      have l2 := q2.length
      refine op_catA pins s σ H _ _ v u Q I rx ry ⟨a1, a2, v1, v2, rfl, rfl, hK ▸ t1, hK ▸ t2, by omega, fun e => ?_, fun e1 e2 => ?_, fun e1 e2 p' hp => ?_⟩
      · subst e
        have : a = [] := by simpa using l1
        subst this
        exact p H _ Ext.refl sh (by simpa using r2)
      · subst e2
        have : b = [] := by simpa using l2
        subst this
        exact p H _ Ext.refl sh (by simpa using r1)
      · exact p _ _ (Ext.upd_new hp) (sh.upd_new hp) (rel_tup sh hp (q1.append q2) (by simpa using hz))
    · exact p.elim
  · split at p
    · rename_i a b e1 e2
      split at p
      · rename_i hz
        obtain ⟨a1, v1, rfl, t1, q1, z1⟩ := lst_of sh r1 e1
        obtain ⟨a2, v2, rfl, t2, q2, z2⟩ := lst_of sh r2 e2
        have l1 := q1.length
        have l2 := q2.length
        exact op_cat pins s σ H _ _ v u Q I rx ry ⟨a1, a2, v1, v2, rfl, rfl, t1, t2, by omega, fun p' hp => p _ _ (by simpa using hz) hp (q1.append q2)⟩
      · exact p.elim
    · exact p.elim
theorem ops_sub : OpR X (binaryOp .Sub) (rO2 C oSub) := by
  intro pins s σ H x y v u Q I rx ry ⟨ρ, hd, dx, dy, sh, r1, r2, p⟩
  unfold oSub at p
  split at p
  · cases of_int r1; cases of_int r2
    exact op_sub pins s σ H _ _ v u Q I rx ry ⟨_, _, rfl, rfl, p.v sh rel_int⟩
  · exact p.elim
theorem ops_mod : OpR X (binaryOp .Mod) (rO2 C oMod) := by
  intro pins s σ H x y v u Q I rx ry ⟨ρ, hd, dx, dy, sh, r1, r2, p⟩
  unfold oMod at p
  split at p
  · split at p
    · rename_i hj
      cases of_int r1; cases of_int r2
      exact op_mod pins s σ H _ _ v u Q I rx ry ⟨_, _, rfl, rfl, hj, p.v sh rel_int⟩
    · exact p.elim
  · exact p.elim
theorem ops_fdiv : OpR X (binaryOp .FloorDiv) (rO2 C oFdiv) := by
  intro pins s σ H x y v u Q I rx ry ⟨ρ, hd, dx, dy, sh, r1, r2, p⟩
  unfold oFdiv at p
  split at p
  · split at p
    · rename_i hj
      cases of_int r1; cases of_int r2
      exact op_fdiv pins s σ H _ _ v u Q I rx ry ⟨_, _, rfl, rfl, hj, p.v sh rel_int⟩
    · exact p.elim
  · exact p.elim
theorem ops_pow : OpR X (binaryOp .Pow) (rO2 C oPow) := by
  intro pins s σ H x y v u Q I rx ry ⟨ρ, hd, dx, dy, sh, r1, r2, p⟩
  unfold oPow at p
  split at p
  · split at p
    · rename_i hj
      cases of_int r1; cases of_int r2
      exact op_pow pins s σ H _ _ v u Q I rx ry ⟨_, _, rfl, rfl, hj, p.v sh rel_int⟩
    · exact p.elim
  · exact p.elim
theorem ops_mul (hK : X.K = C.K) : OpR X (binaryOp .Mult) (rO2 C oMul) := by
  intro pins s σ H x y v u Q I rx ry ⟨ρ, hd, dx, dy, sh, r1, r2, p⟩
  unfold oMul at p
  split at p
  · split at p
    · rename_i hj
      cases of_int r1; cases of_int r2
      exact op_mul pins s σ H _ _ v u Q I rx ry ⟨_, _, rfl, rfl, hj, p.v sh rel_int⟩
    · exact p.elim
  · rename_i a k
    split at p
    · rename_i hz
      obtain ⟨hne, h2, h3, h4⟩ := hz
      obtain ⟨a1, v1, rfl, t1, q1, z1⟩ := tup_of r1
      cases of_int r2
      have l1 := q1.length
      refine op_repT pins s σ H _ _ v u Q I rx ry ⟨a1, k, v1, rfl, rfl, hK ▸ t1, fun e => hne (by subst e; simpa using l1), h2, h3, by omega, fun p' hp => ?_⟩
      refine p _ _ (Ext.upd_new hp) (sh.upd_new hp) (rel_tup sh hp (relL_flatten q1 _) ?_)
      rw [List.length_flatten, List.map_replicate, List.sum_replicate_nat]
      have hk : k.toNat ≤ 1000 := by omega
      have := Nat.mul_le_mul hk h4
      rw [sizeLine_eq]; omega
    · exact p.elim
  · split at p
    · rename_i a e1
      split at p
      · rename_i hz
        obtain ⟨h1, h2, h3⟩ := hz
        obtain ⟨a1, v1, rfl, t1, q1, z1⟩ := lst_of sh r1 e1
        cases of_int r2
        have l1 := q1.length
        refine op_rep pins s σ H _ _ v u Q I rx ry ⟨a1, _, v1, rfl, rfl, t1, h1, h2, by rw [← l1]; exact h3, fun p' hp => p _ _ ?_ hp (relL_flatten q1 _)⟩
        rw [List.length_flatten, List.map_replicate, List.sum_replicate_nat, Nat.mul_comm]
        exact h3
      · exact p.elim
    · exact p.elim
  · exact p.elim
theorem ops_cmp {op : CmpOp} {q : Int → Int → Bool} (h : OpR X (compareOp op) (rI0 fun i j => .bl (q i j))) : OpR X (compareOp op) (rO2 C (oCmp q)) := by
  intro pins s σ H x y v u Q I rx ry ⟨ρ, hd, dx, dy, sh, r1, r2, p⟩
  unfold oCmp at p
  split at p
  · cases of_int r1; cases of_int r2
    exact h pins s σ H _ _ v u Q I rx ry ⟨_, _, rfl, rfl, p.v sh rel_bl⟩
  · exact p.elim
theorem uns_neg : UnR X (unaryOp .USub) (rO1 C oNeg) := by
  intro pins s σ H x v Q I rx ⟨ρ, hd, dx, sh, r1, p⟩
  unfold oNeg at p
  split at p
  · cases of_int r1
    exact un_neg pins s σ H _ v Q I rx ⟨_, rfl, p.v sh rel_int⟩
  · exact p.elim
end
end EV


/-! EvR: data in a heap whose dicts are not the run's own table of modules; their repr. -/
namespace EV
open PySem PySem.Spec PyProof.Rows L2
mutual
inductive Rds (h : Heap) : Value → PyData → Prop
  | none : Rds h .none .none
  | bool (b : Bool) : Rds h (.bool b) (.bool b)
  | int (i : Int) (t : Nat) : Rds h (.int i t) (.int i)
  | str (x : Str) (t : Nat) : Rds h (.str x t) (.str x)
  | list {a : Addr} {o : Obj} {vs : Array Value} {n : Nat} {xs : List PyData} : h.get? a = some o → o.cls = .type "list" → o.data = .seq vs n → RdsAll h vs.toList xs → Rds h (.ref a) (.list xs)
  | tuple {a : Addr} {o : Obj} {vs : Array Value} {n : Nat} {xs : List PyData} : h.get? a = some o → o.cls = .type "tuple" → o.data = .seq vs n → RdsAll h vs.toList xs → Rds h (.ref a) (.tuple xs)
  | dict {a : Addr} {o : Obj} {es : Array DictEntry} {n : Nat} {kvs : List (PyData × PyData)} : h.get? a = some o → o.cls = .type "dict" → o.data = .dict es n → (a == sysModules) = false → RdsAll h (es.toList.map (·.key)) (kvs.map (·.1)) →
      RdsAll h (es.toList.map (·.val)) (kvs.map (·.2)) → Rds h (.ref a) (.dict kvs)
inductive RdsAll (h : Heap) : List Value → List PyData → Prop
  | nil : RdsAll h [] []
  | cons {v : Value} {vs : List Value} {d : PyData} {ds : List PyData} : Rds h v d → RdsAll h vs ds → RdsAll h (v :: vs) (d :: ds)
end
mutual
theorem Rds.reads {h : Heap} : ∀ {v : Value} {d : PyData}, Rds h v d → ∃ as, Reads h v d as
  | _, _, .none => ⟨_, .none⟩
  | _, _, .bool b => ⟨_, .bool b⟩
  | _, _, .int i t => ⟨_, .int i t⟩
  | _, _, .str i t => ⟨_, .str i t⟩
  | _, _, .list h1 h2 h3 h4 => let ⟨_, r⟩ := RdsAll.reads h4; ⟨_, .list h1 h2 h3 r⟩
  | _, _, .tuple h1 h2 h3 h4 => let ⟨_, r⟩ := RdsAll.reads h4; ⟨_, .tuple h1 h2 h3 r⟩
  | _, _, .dict h1 h2 h3 _ h4 h5 => let ⟨_, r⟩ := RdsAll.reads h4; let ⟨_, q⟩ := RdsAll.reads h5; ⟨_, .dict h1 h2 h3 r q⟩
theorem RdsAll.reads {h : Heap} : ∀ {v : List Value} {d : List PyData}, RdsAll h v d → ∃ as, ReadsAll h v d as
  | _, _, .nil => ⟨_, .nil⟩
  | _, _, .cons h1 h2 => let ⟨_, r⟩ := Rds.reads h1; let ⟨_, q⟩ := RdsAll.reads h2; ⟨_, .cons r q⟩
end
section
variable {prog : Program} {w : World} {h₀ : Heap}
open PySem
mutual
theorem Rds.reprK : ∀ {v : Value} {d : PyData}, Rds h₀ v d → d.showable = true → d.shown.length ≤ sizeLine → ∃ bs, ReadAtMost h₀ d.depth bs ∧ ReprK prog w bs h₀ d.depth v d.shown
  | _, _, .none, _, _ => ⟨[], (fun _ h => nomatch h), by simp only [PyData.shown]; exact .of_is ReprIs.none _ _ _⟩
  | _, _, .bool b, _, _ => ⟨[], (fun _ h => nomatch h), by simp only [PyData.shown]; exact .of_is (ReprIs.bool b) _ _ _⟩
  | _, _, .int i t, hs, _ => ⟨[], (fun _ h => nomatch h), by simp only [PyData.shown]; exact .of_is (ReprIs.int t (by simpa [PyData.showable] using hs)) _ _ _⟩
  | _, _, .str x t, _, hz => ⟨[], (fun _ h => nomatch h), by simp only [PyData.shown]; exact .of_is (ReprIs.str x t (by simpa only [PyData.shown] using hz)) _ _ _⟩
  | _, _, .list (a := a) (vs := vs) (xs := xs) h1 h2 h3 h4, hs, hz => by
    have hz' : (listText (PyData.shownAll xs)).length ≤ sizeLine := by simpa only [PyData.shown] using hz
    obtain ⟨bs, hb, hk⟩ := RdsAll.reprK h4 (by simpa [PyData.showable] using hs) (fun t ht => Nat.le_trans (listText_mem_le ht) hz')
    obtain ⟨_, r⟩ := Rds.reads (.list h1 h2 h3 h4)
    have hna : a ∉ bs := not_mem_of_deeper r (by simp only [PyData.depth]; omega) hb
    refine ⟨a :: bs, ReadAtMost.cons r (by simp only [PyData.depth]; omega) hb, ?_⟩
    simp only [PyData.depth, PyData.shown]
    obtain ⟨l⟩ := vs
    cases l with
    | nil =>
      have h4' : RdsAll h₀ [] xs := h4
      cases h4'
      simp only [PyData.shownAll, listText_nil]
      exact ReprK.listEmpty h1 h2 h3
    | cons x l => exact ReprK.list h1 h2 h3 hna (by simpa using hk.length_eq) (fun i y e => hk.item i y (by simpa using e))
  | _, _, .tuple (a := a) (xs := xs) h1 h2 h3 h4, hs, hz => by
    have hz' : (tupleText (PyData.shownAll xs)).length ≤ sizeLine := by simpa only [PyData.shown] using hz
    obtain ⟨bs, hb, hk⟩ := RdsAll.reprK h4 (by simpa [PyData.showable] using hs) (fun t ht => Nat.le_trans (tupleText_mem_le ht) hz')
    obtain ⟨_, r⟩ := Rds.reads (.tuple h1 h2 h3 h4)
    have hna : a ∉ bs := not_mem_of_deeper r (by simp only [PyData.depth]; omega) hb
    refine ⟨a :: bs, ReadAtMost.cons r (by simp only [PyData.depth]; omega) hb, ?_⟩
    simp only [PyData.depth, PyData.shown]
    exact ReprK.tuple h1 h2 h3 hna hk
  | _, _, .dict (a := a) (es := es) (kvs := kvs) h1 h2 h3 hsys h4 h5, hs, hz => by
    have hz' : (dictText (PyData.shownKv kvs)).length ≤ sizeLine := by simpa only [PyData.shown] using hz
    obtain ⟨hs1, hs2⟩ := PyData.showableKv_split kvs (by simpa [PyData.showable] using hs)
    obtain ⟨b1, hb1, k1⟩ := RdsAll.reprK h4 hs1 (fun t ht => let ⟨p, hp, hl⟩ := PyData.shownKv_key_le kvs t ht; Nat.le_trans hl (Nat.le_trans (dictText_mem_le hp) hz'))
    obtain ⟨b2, hb2, k2⟩ := RdsAll.reprK h5 hs2 (fun t ht => let ⟨p, hp, hl⟩ := PyData.shownKv_val_le kvs t ht; Nat.le_trans hl (Nat.le_trans (dictText_mem_le hp) hz'))
    obtain ⟨_, r⟩ := Rds.reads (.dict h1 h2 h3 hsys h4 h5)
    have hb : ReadAtMost h₀ (PyData.depthKv kvs) (b1 ++ b2) := (hb1.mono (PyData.depthAll_keys_le kvs)).append (hb2.mono (PyData.depthAll_vals_le kvs))
    have hna : a ∉ b1 ++ b2 := not_mem_of_deeper r (by simp only [PyData.depth]; omega) hb
    refine ⟨a :: (b1 ++ b2), ReadAtMost.cons r (by simp only [PyData.depth]; omega) hb, ?_⟩
    simp only [PyData.depth, PyData.shown, PyData.shownKv_eq]
    exact ReprK.dict h1 h2 h3 hsys hna (ReprEntriesK.of_two es.toList _ _
      (k1.more_le (fun b hb => List.mem_append_left _ hb) (PyData.depthAll_keys_le kvs)) (k2.more_le (fun b hb => List.mem_append_right _ hb) (PyData.depthAll_vals_le kvs)))
theorem RdsAll.reprK : ∀ {vs : List Value} {ds : List PyData}, RdsAll h₀ vs ds → PyData.showableAll ds = true → (∀ t ∈ PyData.shownAll ds, t.length ≤ sizeLine) →
    ∃ bs, ReadAtMost h₀ (PyData.depthAll ds) bs ∧ ReprAllK prog w bs h₀ (PyData.depthAll ds) vs (PyData.shownAll ds)
  | _, _, .nil, _, _ => ⟨[], (fun _ h => nomatch h), by simp only [PyData.shownAll]; exact .nil⟩
  | _, _, .cons (d := d) (ds := ds) r rs, hs, hz => by
    have hs' : d.showable = true ∧ PyData.showableAll ds = true := by simpa [PyData.showableAll] using hs
    obtain ⟨b1, hb1, k1⟩ := Rds.reprK r hs'.1 (hz _ (by simp only [PyData.shownAll]; exact List.mem_cons_self ..))
    obtain ⟨b2, hb2, k2⟩ := RdsAll.reprK rs hs'.2 (fun t ht => hz t (by simp only [PyData.shownAll]; exact List.mem_cons_of_mem _ ht))
    refine ⟨b1 ++ b2, ?_, ?_⟩
    · intro b hm
      simp only [PyData.depthAll]
      rcases List.mem_append.mp hm with hm | hm
      · obtain ⟨d', as', r', hd'⟩ := hb1 b hm
        exact ⟨d', as', r', Nat.le_trans hd' (Nat.le_max_left _ _)⟩
      · obtain ⟨d', as', r', hd'⟩ := hb2 b hm
        exact ⟨d', as', r', Nat.le_trans hd' (Nat.le_max_right _ _)⟩
    · simp only [PyData.depthAll, PyData.shownAll]
      exact .cons ((k1.more fun b hb => List.mem_append_left _ hb).level_le (Nat.le_max_left _ _)) (k2.more_le (fun b hb => List.mem_append_right _ hb) (Nat.le_max_right _ _))
end
/-- repr(x) -/
theorem repr_rds {A : Around} {E : Value → Shared → Prop} {s : Shared} {Q : Value → Shared → Prop} {a : Addr} {d : PyData} (r : Rds h₀ (.ref a) d) (hs : d.showable = true) (hg : A.guards = some []) (hu : A.units + (d.depth + 1) < cLine) (hk0 : ∀ b o, h₀.get? b = some o → s.heap.get? b = some o)
    (hQ : ∀ h' u tk, (∀ b o, s.heap.get? b = some o → h'.get? b = some o) → Q (.str d.shown u) { s with heap := h', toks := tk })
    (hsz : d.shown.length ≤ sizeLine) : wpAny (model prog w) A (call (.builtin "repr") [.ref a]) Q E s := by
  have go : ∀ {T idr : String}, (∀ s : Shared, (∀ b o, h₀.get? b = some o → s.heap.get? b = some o) → s.TypeIs (.ref a) T) → SlotG T "__repr__" idr →
      (∀ (A : Around) (E : Value → Shared → Prop) (s : Shared) (Q : Value → Shared → Prop), A.guards = some [] → A.units + d.depth < cLine → (∀ b o, h₀.get? b = some o → s.heap.get? b = some o) →
    (∀ h' u tk, (∀ b o, s.heap.get? b = some o → h'.get? b = some o) → Q (.str d.shown u) { s with heap := h', toks := tk }) → wpAny (model prog w) A (call (.builtin idr) [.ref a]) Q E s) → wpAny (model prog w) A (call (.builtin "repr") [.ref a]) Q E s := fun ht sl hc =>
    call_repr_slot (by omega) (ht s hk0) sl (hc A.in1 E s _ hg (by show A.units + 1 + d.depth < cLine; omega) hk0 fun h' u tk hk => ⟨_, _, rfl, hQ h' u tk hk⟩)
  cases r with
  | list h1 h2 h3 h4 =>
    rename_i o vs n xs
    have hz' : (listText (PyData.shownAll xs)).length ≤ sizeLine := by simpa only [PyData.shown] using hsz
    obtain ⟨bs, hb, hk⟩ := RdsAll.reprK (prog := prog) (w := w) h4 (by simpa [PyData.showable] using hs) (fun t ht => Nat.le_trans (listText_mem_le ht) hz')
    obtain ⟨_, r⟩ := Rds.reads (.list h1 h2 h3 h4)
    have hna : a ∉ bs := not_mem_of_deeper r (by simp only [PyData.depth]; omega) hb
    refine go (fun s hk0 => ⟨o, hk0 _ _ h1, h2⟩) F.slot_list_repr.toG fun A E s Q hg hu hk0 hQ => ?_
    simp only [PyData.depth] at hu
    simp only [PyData.shown] at hQ
    obtain ⟨l⟩ := vs
    cases l with
    | nil =>
      have h4' : RdsAll h₀ [] xs := h4
      cases h4'
      simp only [PyData.shownAll, listText_nil] at hQ
      exact call_list_repr_empty ⟨o, hk0 _ _ h1, h2⟩ (hk0 _ _ h1) h3 (hQ s.heap _ _ fun _ _ e => e)
    | cons x l =>
      exact call_list_reprK h1 h2 h3 hna (by simpa using hk.length_eq) (fun i y e => hk.item i y (by simpa using e)) hg (fun b _ => Clear.nil b) hu hk0 hQ hz'
  | tuple h1 h2 h3 h4 =>
    rename_i o vs n xs
    have hz' : (tupleText (PyData.shownAll xs)).length ≤ sizeLine := by simpa only [PyData.shown] using hsz
    obtain ⟨bs, hb, hk⟩ := RdsAll.reprK (prog := prog) (w := w) h4 (by simpa [PyData.showable] using hs) (fun t ht => Nat.le_trans (tupleText_mem_le ht) hz')
    obtain ⟨_, r⟩ := Rds.reads (.tuple h1 h2 h3 h4)
    have hna : a ∉ bs := not_mem_of_deeper r (by simp only [PyData.depth]; omega) hb
    refine go (fun s hk0 => ⟨o, hk0 _ _ h1, h2⟩) F.slot_tuple_repr fun A E s Q hg hu hk0 hQ => ?_
    simp only [PyData.depth] at hu
    simp only [PyData.shown] at hQ
    exact call_tuple_reprK h1 h2 h3 hna hk hg (fun b _ => Clear.nil b) hu hk0 hQ hz'
  | dict h1 h2 h3 hsys h4 h5 =>
    rename_i o es n kvs
    have hz' : (dictText (PyData.shownKv kvs)).length ≤ sizeLine := by simpa only [PyData.shown] using hsz
    obtain ⟨hs1, hs2⟩ := PyData.showableKv_split kvs (by simpa [PyData.showable] using hs)
    obtain ⟨b1, hb1, k1⟩ := RdsAll.reprK (prog := prog) (w := w) h4 hs1 (fun t ht => let ⟨p, hp, hl⟩ := PyData.shownKv_key_le kvs t ht; Nat.le_trans hl (Nat.le_trans (dictText_mem_le hp) hz'))
    obtain ⟨b2, hb2, k2⟩ := RdsAll.reprK (prog := prog) (w := w) h5 hs2 (fun t ht => let ⟨p, hp, hl⟩ := PyData.shownKv_val_le kvs t ht; Nat.le_trans hl (Nat.le_trans (dictText_mem_le hp) hz'))
    have hb : ReadAtMost h₀ (PyData.depthKv kvs) (b1 ++ b2) := (hb1.mono (PyData.depthAll_keys_le kvs)).append (hb2.mono (PyData.depthAll_vals_le kvs))
    obtain ⟨_, r⟩ := Rds.reads (.dict h1 h2 h3 hsys h4 h5)
    have hna : a ∉ b1 ++ b2 := not_mem_of_deeper r (by simp only [PyData.depth]; omega) hb
    refine go (fun s hk0 => ⟨o, hk0 _ _ h1, h2⟩) F.slot_dict_repr fun A E s Q hg hu hk0 hQ => ?_
    simp only [PyData.depth] at hu
    simp only [PyData.shown, PyData.shownKv_eq] at hQ
    exact call_dict_reprK h1 h2 h3 hsys hna (ReprEntriesK.of_two es.toList _ _
      (k1.more_le (fun b hb => List.mem_append_left _ hb) (PyData.depthAll_keys_le kvs)) (k2.more_le (fun b hb => List.mem_append_right _ hb) (PyData.depthAll_vals_le kvs))) hg (fun b _ => Clear.nil b) hu hk0 hQ (by rw [← PyData.shownKv_eq]; exact hz')
end
end EV


/-! EvE: comparing, in, subscripts, slices, truth. -/
namespace EV
open PySem PySem.Spec PyProof.Rows L2
theorem toPyL_len : ∀ (ds : List D) (ps : List PyData), toPyL ds = some ps → ds.length = ps.length
  | [], _, e => by simp only [toPyL, Option.some.injEq] at e; subst e; rfl
  | d :: ds, _, e => by
    simp only [toPyL] at e
    split at e
    · cases e
    · split at e
      · cases e
      · rename_i ps e2
        cases e
        rw [List.length_cons, List.length_cons, toPyL_len ds ps e2]

section
variable {X : Cx} {C : Ctx} {ρ : RhoT} {H : Hp} {hd : Hd} {pins : List (Addr × Obj)} {σ : L2.St} {s : Shared}

theorem reads_ints {h : Heap} : ∀ {ns : List Int} {us : List Value}, Vals (ns.map V.int) us → RdsAll h us (ns.map PyData.int)
  | [], _, r => by cases r; exact .nil
  | n :: ns, _, r => by
    cases r with
    | cons r1 r2 =>
      obtain ⟨t, rfl⟩ := r1
      exact .cons (.int n t) (reads_ints r2)
theorem reads_keys {P : Program} {w : World} {h : Heap} : ∀ {ks : List Key} {vs : List V} {kvs : List (Key × Value)} {es : List DictEntry}, ks.length = vs.length → KV (ks.zip vs) kvs → Pairs (mixKind P w) es kvs → RdsAll h (es.map (·.key)) (ks.map keyPy) ∧ Vals vs (es.map (·.val))
  | [], [], _, _, _, r, q => by cases r; cases q; exact ⟨.nil, .nil⟩
  | [], _ :: _, _, _, e, _, _ => by cases e
  | _ :: _, [], _, _, e, _, _ => by cases e
  | k :: ks, v :: vs, _, _, e, r, q => by
    cases r with
    | cons r1 r2 =>
      cases q with
      | cons q1 q2 q3 =>
        obtain ⟨i1, i2⟩ := reads_keys (h := h) (by simpa using e) r2 q3
        obtain ⟨e1, e2⟩ := r1
        refine ⟨?_, .cons (by dsimp only; rw [q2]; exact e2) i2⟩
        have q1 : keyIs _ _ = true := q1
        rw [← e1] at q1
        have q1 : keyIs k _ = true := q1
        rcases keyIs_shape q1 with ⟨i, t, rfl, z⟩ | ⟨x, t, rfl, z⟩
        · exact .cons (by dsimp only; rw [z]; exact .int i t) i1
        · exact .cons (by dsimp only; rw [z]; exact .str x t) i1
mutual
theorem reads_of (hK : X.K = C.K) (I : Inv X pins σ H s) : ∀ (d : D) (p : PyData) (v : V) (u : Value), toPy d = some p → Rel C ρ H d v → RelV v u → Rds s.heap u p
  | .non, _, _, _, e, r, q => by
    simp only [toPy, Option.some.injEq] at e; subst e; cases of_non r; cases q; exact .none
  | .bl b, _, _, _, e, r, q => by
    simp only [toPy, Option.some.injEq] at e; subst e; cases of_bl r; cases q; exact .bool b
  | .int i, _, _, _, e, r, q => by
    simp only [toPy, Option.some.injEq] at e; subst e; cases of_int r; obtain ⟨t, rfl⟩ := q; exact .int i t
  | .str x, _, _, _, e, r, q => by
    simp only [toPy, Option.some.injEq] at e; subst e; cases (of_str r).1; obtain ⟨t, rfl⟩ := q; exact .str x t
  | .tup xs, _, _, _, e, r, q => by
    simp only [toPy, Option.map_eq_some_iff] at e
    obtain ⟨ps, e1, rfl⟩ := e
    obtain ⟨a, vs, rfl, t, rl, z⟩ := tup_of r
    cases q
    obtain ⟨its, rv, ⟨o, ho, hc, n, hd⟩, _⟩ := I.tuple (hK ▸ t)
    have hr := readsL_of hK I xs ps vs its e1 rl rv
    exact .tuple ho hc hd hr
  | .lst xs, _, _, _, e, r, q => by
    simp only [toPy, Option.map_eq_some_iff] at e
    obtain ⟨ps, e1, rfl⟩ := e
    simp only [Rel] at r
    obtain ⟨a, vs, rfl, ⟨t, _⟩, rl, z⟩ := r
    cases q
    obtain ⟨its, rv, ⟨o, n, ho, hc, _, hd⟩, _⟩ := I.list (SqL.of t)
    have hr := readsL_of hK I xs ps vs its e1 rl rv
    exact .list ho hc hd hr
  | .dic ks xs, _, _, _, e, r, q => by
    simp only [toPy, Option.map_eq_some_iff] at e
    obtain ⟨ps, e1, rfl⟩ := e
    simp only [Rel] at r
    obtain ⟨a, vs, rfl, ⟨t, _⟩, rl, z⟩ := r
    cases q
    obtain ⟨_, hS, kvs, kv, o, es, ep, ho, hx, hdd, _, hp, _⟩ := I.hok a _ t
    have lv := rl.length
    obtain ⟨k1, k2⟩ := reads_keys (h := s.heap) (by omega) kv hp
    have hr := readsL_of hK I xs ps vs _ e1 rl k2
    have lp : (ks.map keyPy).length = ps.length := by rw [List.length_map, z, toPyL_len xs ps e1]
    exact .dict ho hx.1 hdd hS (by rw [List.map_fst_zip (by omega)]; exact k1) (by rw [List.map_snd_zip (by omega)]; exact hr)
  | .scr ns, _, _, _, e, r, q => by
    simp only [toPy, Option.some.injEq] at e; subst e
    obtain ⟨a, rfl, t, z⟩ := scr_of r
    cases q
    obtain ⟨its, rv, ⟨o, n, ho, hc, _, hd⟩, _⟩ := I.list (hK ▸ t)
    exact .list ho hc hd (reads_ints rv)
  | .ref _, _, _, _, e, _, _ => by simp only [toPy] at e; cases e
  | .fn _, _, _, _, e, _, _ => by simp only [toPy] at e; cases e
  | .ty _, _, _, _, e, _, _ => by simp only [toPy] at e; cases e
  | .cl _, _, _, _, e, _, _ => by simp only [toPy] at e; cases e
theorem readsL_of (hK : X.K = C.K) (I : Inv X pins σ H s) : ∀ (ds : List D) (ps : List PyData) (vs : List V) (us : List Value), toPyL ds = some ps → RelL C ρ H ds vs → Vals vs us → RdsAll s.heap us ps
  | [], _, _, _, e, r, q => by
    simp only [toPyL, Option.some.injEq] at e; subst e
    rw [RelL.nil_iff] at r; subst r; cases q; exact .nil
  | d :: ds, _, _, _, e, r, q => by
    simp only [toPyL] at e
    split at e
    · cases e
    · rename_i p e1
      split at e
      · cases e
      · rename_i ps e2
        cases e
        simp only [RelL] at r
        obtain ⟨v, vs, rfl, r1, r2⟩ := r
        cases q with
        | cons q1 q2 =>
          have h1 := reads_of hK I d p v _ e1 r1 q1
          have h2 := readsL_of hK I ds ps vs _ e2 r2 q2
          exact .cons h1 h2
end
/-- .. or a list, a dict that changes -/
theorem readsT_of (hK : X.K = C.K) (I : Inv X pins σ H s) (sh : SimH C ρ H hd) {d : D} {p : PyData} {v : V} {u : Value} (e : toPyT hd d = some p) (r : Rel C ρ H d v) (q : RelV v u) : Rds s.heap u p := by
  cases d with
  | ref n =>
    simp only [toPyT] at e
    simp only [Rel] at r
    obtain ⟨a, rfl, f⟩ := r
    cases q
    split at e
    · rename_i xs h
      simp only [Option.map_eq_some_iff] at e
      obtain ⟨ps, e1, rfl⟩ := e
      obtain ⟨_, vs, t, rl, z⟩ := sh.lst_at h f
      obtain ⟨its, rv, ⟨o, n, ho, hc, _, hd⟩, _⟩ := I.list (SqL.of t)
      have hr := readsL_of hK I xs ps vs its e1 rl rv
      exact .list ho hc hd hr
    · rename_i ks xs h
      simp only [Option.map_eq_some_iff] at e
      obtain ⟨ps, e1, rfl⟩ := e
      obtain ⟨vs, t, rl, z⟩ : ∃ vs, H a = some (.dK (ks.zip vs)) ∧ RelL C ρ H xs vs ∧ ks.length = xs.length := by
        rcases f with f | f
        · obtain ⟨o, h1, h2⟩ := sh.at_ n a f
          rw [h] at h1; cases h1
          exact h2
        · cases sh.live n _ h f
      obtain ⟨_, hS, kvs, kv, o, es, ep, ho, hx, hdd, _, hp, _⟩ := I.hok a _ t
      have lv := rl.length
      obtain ⟨k1, k2⟩ := reads_keys (h := s.heap) (by omega) kv hp
      have hr := readsL_of hK I xs ps vs _ e1 rl k2
      have lp : (ks.map keyPy).length = ps.length := by rw [List.length_map, z, toPyL_len xs ps e1]
      exact .dict ho hx.1 hdd hS (by rw [List.map_fst_zip (by omega)]; exact k1) (by rw [List.map_snd_zip (by omega)]; exact hr)
    · cases e
  | _ => exact reads_of hK I _ p v u e r q

theorem ops_eqv {op : CmpOp} {g : Bool → Bool} (hs : OpR X (compareOp op) (fun x y H Q => scal x y = true ∧ Q (.bl (g (decide (x = y)))) H))
    (hd' : ∀ (pins : List (Addr × Obj)) (s : Shared) (σ : L2.St) (H : Hp) (v u : Value) (p q : PyData) (as bs : List Addr) (Q : VK), Inv X pins σ H s → Reads s.heap v p as → Reads s.heap u q bs → SeqAt.shaped p = true → SeqAt.shaped q = true → Q (.bl (g (PyData.eqv p q))) H → wpAny (model X.prog X.w) X.A (compareOp op v u) (EP X pins σ Q) X.xe s)
    (hK : X.K = C.K) : OpR X (compareOp op) (rO2 C fun x y h => (eqv x y h).map fun b => .v (.bl (g b))) := by
  intro pins s σ H x y v u Q I rx ry ⟨ρ, hd, dx, dy, sh, r1, r2, p⟩
  dsimp only at p
  unfold eqv at p
  split at p
  · cases (of_str r1).1; cases (of_str r2).1
    exact hs pins s σ H _ _ v u Q I rx ry ⟨rfl, by rw [dec_str]; exact p.v sh rel_bl⟩
  · cases of_int r1; cases of_int r2
    exact hs pins s σ H _ _ v u Q I rx ry ⟨rfl, by rw [dec_int]; exact p.v sh rel_bl⟩
  · cases of_bl r1; cases of_bl r2
    exact hs pins s σ H _ _ v u Q I rx ry ⟨rfl, by rw [dec_bl]; exact p.v sh rel_bl⟩
  · split at p
    · rename_i pp qq e1 e2
      split at p
      · rename_i hsh
        obtain ⟨as, h1⟩ := (readsT_of hK I sh e1 r1 rx).reads
        obtain ⟨bs, h2⟩ := (readsT_of hK I sh e2 r2 ry).reads
        exact hd' pins s σ H v u pp qq as bs Q I h1 h2 hsh.1 hsh.2 (p.v sh rel_bl)
      · exact p.elim
    · exact p.elim
theorem ops_eq (hK : X.K = C.K) (hu : X.A.units + 64 < cLine) : OpR X (compareOp .Eq) (rO2 C oEq) :=
  ops_eqv (g := fun b => b) op_eq (fun pins s σ H v u p q as bs Q I r1 r2 h1 h2 hq => SeqAt.compareEq_shaped r1 r2 h1 h2 hu ⟨.bl _, H, I, rfl, hq⟩) hK
theorem ops_ne (hK : X.K = C.K) (hu : X.A.units + 64 < cLine) : OpR X (compareOp .NotEq) (rO2 C oNe) :=
  ops_eqv (g := fun b => !b) op_ne (fun pins s σ H v u p q as bs Q I r1 r2 h1 h2 hq => SeqAt.compareNe_shaped r1 r2 h1 h2 hu ⟨.bl _, H, I, rfl, hq⟩) hK

theorem flat_rel {d : D} {v : V} (f : flatD d = true) (r : Rel C ρ H d v) : flatV v = true := by
  cases d with
  | non => cases of_non r; rfl
  | bl _ => cases of_bl r; rfl
  | int _ => cases of_int r; rfl
  | str _ => cases (of_str r).1; rfl
  | _ => cases f
theorem eqF_rel {d e : D} {v w : V} (f : flatD d = true) (g : flatD e = true) (r : Rel C ρ H d v) (q : Rel C ρ H e w) : eqV v w = eqF d e := by
  cases d with
  | non => cases of_non r; cases e with
    | non => cases of_non q; rfl
    | bl _ => cases of_bl q; rfl
    | int _ => cases of_int q; rfl
    | str _ => cases (of_str q).1; rfl
    | _ => cases g
  | bl _ => cases of_bl r; cases e with
    | non => cases of_non q; rfl
    | bl _ => cases of_bl q; rfl
    | int _ => cases of_int q; rfl
    | str _ => cases (of_str q).1; rfl
    | _ => cases g
  | int _ => cases of_int r; cases e with
    | non => cases of_non q; rfl
    | bl _ => cases of_bl q; rfl
    | int _ => cases of_int q; rfl
    | str _ => cases (of_str q).1; rfl
    | _ => cases g
  | str _ => cases (of_str r).1; cases e with
    | non => cases of_non q; rfl
    | bl _ => cases of_bl q; rfl
    | int _ => cases of_int q; rfl
    | str _ => cases (of_str q).1; rfl
    | _ => cases g
  | _ => cases f
theorem inL_rel {d : D} {v : V} (f : flatD d = true) (r : Rel C ρ H d v) : ∀ {ys : List D} {vs : List V}, ys.all flatD = true → RelL C ρ H ys vs → vs.all flatV = true ∧ inV v vs = ys.any fun y => eqF y d
  | [], _, _, q => by rw [RelL.nil_iff] at q; subst q; exact ⟨rfl, rfl⟩
  | y :: ys, _, g, q => by
    simp only [RelL] at q
    obtain ⟨w, vs, rfl, q1, q2⟩ := q
    simp only [List.all_cons, Bool.and_eq_true] at g
    obtain ⟨i1, i2⟩ := inL_rel f r g.2 q2
    refine ⟨by simp only [List.all_cons, flat_rel g.1 q1, i1, Bool.and_self], ?_⟩
    show (w :: vs).any (fun y => eqV y v) = _
    rw [List.any_cons, List.any_cons, eqF_rel g.1 f q1 r]
    exact congrArg _ i2
theorem ops_isIn {op : CmpOp} {g : Bool → Bool} (h1 : OpR X (compareOp op) (fun x y H Q => ∃ i j, x = .str i ∧ y = .str j ∧ Q (.bl (g (!(Builtin.Str.occurrences j i 0 j.length 1).isEmpty))) H))
    (h2 : OpR X (compareOp op) (fun x y H Q => ∃ p xs, y = .ref p ∧ (SqL X.K H p xs ∨ SqT X.K H p xs) ∧ flatV x = true ∧ xs.all flatV = true ∧ Q (.bl (g (inV x xs))) H)) (hK : X.K = C.K) :
    OpR X (compareOp op) (rO2 C fun x y h => (isIn x y h).map fun b => .v (.bl (g b))) := by
  intro pins s σ H x y v u Q I rx ry ⟨ρ, hd, dx, dy, sh, r1, r2, p⟩
  dsimp only at p
  unfold isIn at p
  split at p
  · cases (of_str r1).1; cases (of_str r2).1
    exact h1 pins s σ H _ _ v u Q I rx ry ⟨_, _, rfl, rfl, p.v sh rel_bl⟩
  · split at p
    · rename_i ys e
      split at p
      · rename_i hf
        obtain ⟨a, vs, rfl, t, rl, z⟩ := seq_of sh r2 e
        obtain ⟨f1, f2⟩ := inL_rel hf.1 r1 hf.2 rl
        exact h2 pins s σ H _ _ v u Q I rx ry ⟨a, vs, rfl, hK ▸ t, flat_rel hf.1 r1, f1, by rw [f2]; exact p.v sh rel_bl⟩
      · exact p.elim
    · exact p.elim
theorem ops_in (hK : X.K = C.K) : OpR X (compareOp .In) (rO2 C oIn) := ops_isIn (g := fun b => b) op_in_str op_in_seq hK
theorem ops_notIn (hK : X.K = C.K) : OpR X (compareOp .NotIn) (rO2 C oNotIn) := ops_isIn (g := fun b => !b) L2.op_notIn_str op_notIn_seq hK
theorem non_rel {d : D} {v : V} (r : Rel C ρ H d v) : decide (v = V.non) = isNon d := by
  cases d with
  | non => cases of_non r; rfl
  | bl _ => cases of_bl r; rfl
  | int _ => cases of_int r; rfl
  | str _ => cases (of_str r).1; rfl
  | tup _ => simp only [Rel] at r; obtain ⟨a, vs, rfl, _⟩ := r; rfl
  | lst _ => simp only [Rel] at r; obtain ⟨a, vs, rfl, _⟩ := r; rfl
  | dic _ _ => simp only [Rel] at r; obtain ⟨a, vs, rfl, _⟩ := r; rfl
  | scr _ => simp only [Rel] at r; obtain ⟨a, rfl, _⟩ := r; rfl
  | ref _ => simp only [Rel] at r; obtain ⟨a, rfl, _⟩ := r; rfl
  | fn _ => simp only [Rel] at r; subst r; rfl
  | ty _ => simp only [Rel] at r; subst r; rfl
  | cl _ => simp only [Rel] at r; subst r; rfl
theorem is_non {d : D} {v : V} (e : isNon d = true) (r : Rel C ρ H d v) : v = .non := by
  cases d with
  | non => exact of_non r
  | _ => cases e
theorem ops_is : OpR X (compareOp .Is) (rO2 C oIsN) := by
  intro pins s σ H x y v u Q I rx ry ⟨ρ, hd, dx, dy, sh, r1, r2, p⟩
  unfold oIsN at p
  split at p
  · rename_i e
    exact op_isN pins s σ H _ _ v u Q I rx ry ⟨is_non e r2, by rw [non_rel r1]; exact p.v sh rel_bl⟩
  · exact p.elim
theorem ops_isNot : OpR X (compareOp .IsNot) (rO2 C oIsNot) := by
  intro pins s σ H x y v u Q I rx ry ⟨ρ, hd, dx, dy, sh, r1, r2, p⟩
  unfold oIsNot at p
  split at p
  · rename_i e
    exact op_notN pins s σ H _ _ v u Q I rx ry ⟨is_non e r2, by rw [non_rel r1]; exact p.v sh rel_bl⟩
  · exact p.elim

/-! ### an item -/
theorem atI_rel {ds : List D} {vs : List V} {i : Int} {d : D} (rl : RelL C ρ H ds vs) (e : atI ds i = some d) : ∃ v, atI vs i = some v ∧ Rel C ρ H d v := by
  unfold atI at e ⊢
  rw [rl.length] at e
  cases hj : ixN vs.length i with
  | none => rw [hj] at e; cases e
  | some j =>
    rw [hj] at e
    exact rl.get (i := j) e
theorem ix_ok (hK : X.K = C.K) : IxR X (rO2 C oIx) := by
  intro vl sl pins s σ H x y v u Q I rx ry ⟨ρ, hd, dx, dy, sh, r1, r2, p⟩ hs
  unfold oIx at p
  split at p
  · rename_i z i
    cases (of_str r1).1; cases of_int r2
    cases e : atI z.cps.toList i with
    | none => rw [e] at p; exact p.elim
    | some c =>
      rw [e] at p
      exact ix_str vl sl pins s σ H _ _ v u Q I rx ry ⟨z, i, c, rfl, rfl, (of_str r1).2, e, p.v sh (rel_str (by show 1 ≤ sizeLine; rw [sizeLine_eq]; decide))⟩ hs
  · rename_i i _
    cases of_int r2
    split at p
    · rename_i xs e
      cases e2 : atI xs i with
      | none => rw [e2] at p; exact p.elim
      | some d =>
        rw [e2] at p
        obtain ⟨a, vs, rfl, t, rl, z⟩ := seq_of sh r1 e
        obtain ⟨w, e3, rw'⟩ := atI_rel rl e2
        rcases t with t | t
        · exact ix_list vl sl pins s σ H _ _ v u Q I rx ry ⟨a, vs, i, w, rfl, rfl, hK ▸ t, e3, p.v sh rw'⟩ hs
        · exact ix_tup vl sl pins s σ H _ _ v u Q I rx ry ⟨a, vs, i, w, rfl, rfl, hK ▸ t, e3, p.v sh rw'⟩ hs
    · exact p.elim
  · exact p.elim
/-! ### truth -/
theorem truth_rel (hK : X.K = C.K) {d : D} {v : V} {b : Bool} (sh : SimH C ρ H hd) (r : Rel C ρ H d v) (e : truth d hd = some b) : TruV X.K v H b := by
  have seqc : ∀ d, (seqOf d hd).map (fun xs => !xs.isEmpty) = some b → Rel C ρ H d v → TruV X.K v H b := fun d e r => by
    simp only [Option.map_eq_some_iff] at e
    obtain ⟨xs, e1, rfl⟩ := e
    obtain ⟨a, vs, rfl, t, rl, z⟩ := seq_of sh r e1
    have hb : (!xs.isEmpty) = !vs.isEmpty := by
      have := rl.length
      cases xs <;> cases vs <;> first | rfl | (simp at this)
    rcases t with t | t
    · exact .inl ⟨vs, hK ▸ t, hb⟩
    · exact .inr (.inl ⟨vs, hK ▸ t, hb⟩)
  cases d with
  | non => cases of_non r; exact (Option.some.inj e).symm
  | bl _ => cases of_bl r; exact (Option.some.inj e).symm
  | int _ => cases of_int r; exact (Option.some.inj e).symm
  | str _ => obtain ⟨rfl, z⟩ := of_str r; exact ⟨z, (Option.some.inj e).symm⟩
  | tup xs => exact seqc (.tup xs) e r
  | lst xs => exact seqc (.lst xs) e r
  | dic k x => exact seqc (.dic k x) e r
  | scr n => exact seqc (.scr n) e r
  | ref n => exact seqc (.ref n) e r
  | fn n => exact seqc (.fn n) e r
  | ty n => exact seqc (.ty n) e r
  | cl n => exact seqc (.cl n) e r
end
end EV


/-! EvF: argument lists, displays, and, or, not, tests, chains, calls of built-ins, slices. -/
namespace EV
open PySem PySem.Spec PyProof.Rows L2

def mnil : M (List D) := fun _ h => .ok [] h
def mcons (a : M D) (r : M (List D)) : M (List D) := fun env h => (a env h).bind fun x h1 => (r env h1).bind fun xs h2 => .ok (x :: xs) h2
def mstar (a : M D) (r : M (List D)) : M (List D) := fun env h => (a env h).bind fun x h1 => match seqOf x h1 with
  | some xs => (r env h1).bind fun ys h2 => .ok (xs ++ ys) h2
  | none => .bad
def mtup (as : M (List D)) : M D := fun env h => (as env h).bind fun xs h1 => if xs.length ≤ sizeLine then .ok (.tup xs) h1 else .bad
def mlst (m : Bool) (as : M (List D)) : M D := fun env h => (as env h).bind fun xs h1 => fin m (if xs.length ≤ sizeLine then some (.new xs) else none) h1
def mand (a b : M D) : M D := fun env h => (a env h).bind fun x h1 => match truth x h1 with
  | some true => b env h1
  | some false => .ok x h1
  | none => .bad
def mor (a b : M D) : M D := fun env h => (a env h).bind fun x h1 => match truth x h1 with
  | some true => .ok x h1
  | some false => b env h1
  | none => .bad
def mnot (a : M D) : M D := fun env h => (a env h).bind fun x h1 => match truth x h1 with
  | some b => .ok (.bl !b) h1
  | none => .bad
def mandT (a b : M Bool) : M Bool := fun env h => (a env h).bind fun c h1 => if c then b env h1 else .ok false h1
def morT (a b : M Bool) : M Bool := fun env h => (a env h).bind fun c h1 => if c then .ok true h1 else b env h1
def mnotT (a : M Bool) : M Bool := fun env h => (a env h).bind fun c h1 => .ok (!c) h1
def mtru (a : M D) : M Bool := fun env h => (a env h).bind fun x h1 => match truth x h1 with
  | some b => .ok b h1
  | none => .bad
def mbl (a : M D) : M Bool := fun env h => (a env h).bind fun x h1 => match x with
  | .bl b => .ok b h1
  | _ => .bad
def mite (c : M Bool) (a b : M D) : M D := fun env h => (c env h).bind fun k h1 => if k then a env h1 else b env h1
/-- a op b op' c -/
def mchain (f g : Op2) (a b c : M D) : M D := fun env h => (a env h).bind fun x h1 => (b env h1).bind fun y h2 => match f x y h2 with
  | some (.v (.bl true)) => (c env h2).bind fun z h3 => fin false (g y z h3) h3
  | some (.v (.bl false)) => .ok (.bl false) h2
  | _ => .bad
def mfun (m : Bool) (f : OpN) (as : M (List D)) : M D := fun env h => (as env h).bind fun xs h1 => fin m (f xs h1) h1

section
variable {X : Cx} {C : Ctx} {W : WX} {pos : Pos} {a b c e : Expr} {es rest : List Expr} {ma mb mc' : M D} {ms : M (List D)} {ta tb : M Bool}

theorem evl_nil : PA X [] (tL C W mnil) := weakA pa_nil fun σ H Q ⟨ρ, env, hd, er, sh, p⟩ => p.here sh RelL.nil
def notStar : Expr → Bool
  | .Starred _ _ => false
  | _ => true
theorem starEach_at {env : PySem.Env} (h : notStar e = true) : starEach (e :: es) env = (false, eval e env) :: starEach es env := by
  cases e <;> first | rfl | cases h
def noStars : List Expr → Bool
  | [] => true
  | e :: es => notStar e && noStars es
theorem plain_of {env : PySem.Env} : ∀ {es : List Expr}, noStars es = true → (backTo pos (starEach es env)).any (·.1) = false
  | [], _ => rfl
  | e :: es, h => by
    unfold noStars at h
    rw [Bool.and_eq_true] at h
    rw [starEach_at h.1]
    show (false || (backTo pos (starEach es env)).any (·.1)) = false
    rw [plain_of h.2]; rfl
theorem evl_cons (ha : PE X e (tE C W ma)) (hr : PA X es (tL C W ms)) (hs : notStar e = true) : PA X (e :: es) (tL C W (mcons ma ms)) :=
  weakA (pa_cons ha hr (starEach_at hs)) fun σ H Q ⟨ρ, env, hd, er, sh, p⟩ =>
    seqE er sh p fun v H1 ρ1 hd1 d x er1 sh1 r1 p1 => seqL er1 sh1 p1 fun vs H2 ρ2 hd2 ds x2 er2 sh2 r2 p2 => p2.here sh2 (RelL.cons (Rel.ext x2 _ _ r1) r2)
theorem evl_star {ps : Pos} (hK : X.K = C.K) (ha : PE X e (tE C W ma)) (hr : PA X es (tL C W ms)) : PA X (.Starred e ps :: es) (tL C W (mstar ma ms)) :=
  weakA (StX.pa_star ha hr) fun σ H Q ⟨ρ, env, hd, er, sh, p⟩ =>
    seqE er sh p fun v H1 ρ1 hd1 d x er1 sh1 r1 p1 => by
      split at p1
      · rename_i xs e1
        obtain ⟨a, vs, rfl, t, rl, z⟩ := seq_of sh1 r1 e1
        exact ⟨a, vs, rfl, hK ▸ t.symm, seqL er1 sh1 p1 fun ws H2 ρ2 hd2 ds x2 er2 sh2 r2 p2 => p2.here sh2 ((RelL.ext x2 _ _ rl).append r2)⟩
      · exact p1.elim
theorem ev_tup {k : Nat} (h : PA X es (tL C W ms)) : PE X (.Tuple es k pos) (tE C W (mtup ms)) :=
  weakE (pe_tup h) fun σ H Q ⟨ρ, env, hd, er, sh, p⟩ => seqL er sh p fun vs H1 ρ1 hd1 ds x er1 sh1 r1 p1 => by
    split at p1
    · rename_i hz
      exact ⟨by rw [← r1.length]; exact hz, fun q hq => p1 _ _ _ (Ext.upd_new hq) (sh1.upd_new hq) (rel_tup sh1 hq r1 hz)⟩
    · exact p1.elim
theorem ev_lst {m : Bool} (h : PA X es (tL C W ms)) : PE X (.List es pos) (tE C W (mlst m ms)) :=
  weakE (pe_lst h) fun σ H Q ⟨ρ, env, hd, er, sh, p⟩ => seqL er sh p fun vs H1 ρ1 hd1 ds x er1 sh1 r1 p1 => by
    split at p1
    · rename_i hz
      have q := p1.fin sh1
      exact ⟨by rw [← r1.length]; exact hz, fun a ha => q a vs hz ha r1⟩
    · exact (p1.fin sh1).elim
theorem ev_and (hK : X.K = C.K) (ha : PE X a (tE C W ma)) (hb : PE X (.BoolOp .And (b :: rest) pos) (tE C W mb)) : PE X (.BoolOp .And (a :: b :: rest) pos) (tE C W (mand ma mb)) :=
  weakE (pe_andT ha hb) fun σ H Q ⟨ρ, env, hd, er, sh, p⟩ => seqE er sh p fun v H1 ρ1 hd1 d x er1 sh1 r1 p1 => by
    split at p1
    · rename_i e
      exact ⟨true, truth_rel hK sh1 r1 e, ρ1, env, hd1, er1, sh1, p1⟩
    · rename_i e
      exact ⟨false, truth_rel hK sh1 r1 e, p1.here sh1 r1⟩
    · exact p1.elim
theorem ev_or (hK : X.K = C.K) (ha : PE X a (tE C W ma)) (hb : PE X (.BoolOp .Or (b :: rest) pos) (tE C W mb)) : PE X (.BoolOp .Or (a :: b :: rest) pos) (tE C W (mor ma mb)) :=
  weakE (pe_orT ha hb) fun σ H Q ⟨ρ, env, hd, er, sh, p⟩ => seqE er sh p fun v H1 ρ1 hd1 d x er1 sh1 r1 p1 => by
    split at p1
    · rename_i e
      exact ⟨true, truth_rel hK sh1 r1 e, p1.here sh1 r1⟩
    · rename_i e
      exact ⟨false, truth_rel hK sh1 r1 e, ρ1, env, hd1, er1, sh1, p1⟩
    · exact p1.elim
theorem ev_one {op : PySem.BoolOp} (ha : PE X a (tE C W ma)) : PE X (.BoolOp op [a] pos) (tE C W ma) := pe_one ha
theorem ev_not (hK : X.K = C.K) (ha : PE X a (tE C W ma)) : PE X (.UnaryOp .Not a pos) (tE C W (mnot ma)) :=
  weakE (pe_notT ha) fun σ H Q ⟨ρ, env, hd, er, sh, p⟩ => seqE er sh p fun v H1 ρ1 hd1 d x er1 sh1 r1 p1 => by
    split at p1
    · rename_i b e
      exact ⟨b, truth_rel hK sh1 r1 e, p1.here sh1 rel_bl⟩
    · exact p1.elim
theorem evt_and (ha : PT X a (tT C W ta)) (hb : PW X (.BoolOp .And (b :: rest) pos) (tT C W tb)) : PW X (.BoolOp .And (a :: b :: rest) pos) (tT C W (mandT ta tb)) :=
  weakW (pw_and ha hb) fun σ H Q ⟨ρ, env, hd, er, sh, p⟩ => seqT er sh p fun k H1 ρ1 hd1 x er1 sh1 p1 => by
    cases k with
    | true => exact ⟨ρ1, env, hd1, er1, sh1, p1⟩
    | false => exact p1.here sh1 rfl
theorem evt_or (ha : PT X a (tT C W ta)) (hb : PW X (.BoolOp .Or (b :: rest) pos) (tT C W tb)) : PW X (.BoolOp .Or (a :: b :: rest) pos) (tT C W (morT ta tb)) :=
  weakW (pw_or ha hb) fun σ H Q ⟨ρ, env, hd, er, sh, p⟩ => seqT er sh p fun k H1 ρ1 hd1 x er1 sh1 p1 => by
    cases k with
    | true => exact p1.here sh1 rfl
    | false => exact ⟨ρ1, env, hd1, er1, sh1, p1⟩
theorem evt_not (ha : PT X a (tT C W ta)) : PT X (.UnaryOp .Not a pos) (tT C W (mnotT ta)) :=
  weakT (pt_not ha) fun σ H Q ⟨ρ, env, hd, er, sh, p⟩ => seqT er sh p fun k H1 ρ1 hd1 x er1 sh1 p1 => p1.here sh1 rfl
/-- a test by its value's truth -/
def plainTest : Expr → Bool
  | .UnaryOp .Not _ _ => false
  | .BoolOp _ _ _ => false
  | .IfExp _ _ _ _ => false
  | .Compare _ _ _ _ => false
  | _ => true
theorem isTrue_of (h : plainTest e = true) : ∀ whole, isTrue e X.env whole = (do let v ← whole; standAt e.pos; holding [v] (truthy v)) := by
  intro whole
  cases e with
  | UnaryOp op _ _ => cases op <;> first | rfl | cases h
  | BoolOp _ _ _ => cases h
  | IfExp _ _ _ _ => cases h
  | Compare _ _ _ _ => cases h
  | _ => rfl
theorem evt_tru (hK : X.K = C.K) (ha : PE X e (tE C W ma)) (hp : plainTest e = true) : PT X e (tT C W (mtru ma)) :=
  weakT (pt_truth ha (isTrue_of hp)) fun σ H Q ⟨ρ, env, hd, er, sh, p⟩ => seqE er sh p fun v H1 ρ1 hd1 d x er1 sh1 r1 p1 => by
    split at p1
    · rename_i b e1
      exact ⟨b, truth_rel hK sh1 r1 e1, p1.here sh1 rfl⟩
    · exact p1.elim
theorem bl_of {σ : L2.St} {H : Hp} {Q : Bool → Hp → Prop} (h : tT C W (mbl ma) σ H Q) : tE C W ma σ H fun x H1 => ∃ k, x = .bl k ∧ Q k H1 := by
  obtain ⟨ρ, env, hd, er, sh, p⟩ := h
  exact seqE er sh p fun v H1 ρ1 hd1 d x er1 sh1 r1 p1 => by
    split at p1
    · rename_i b
      exact ⟨b, of_bl r1, p1.here sh1 rfl⟩
    · exact p1.elim
theorem evt_cmp {op : CmpOp} {f : Op2} (ho : OpR X (compareOp op) (rO2 C f)) (ha : PE X a (tE C W ma)) (hb : PE X b (tE C W mb)) (hm : behindInMarks op b = false) : PT X (.Compare a [op] [b] pos) (tT C W (mbl (mop2 false f ma mb))) :=
  weakT (pt_cmpR ho ha hb hm) fun σ H Q h => seq_op2 (bl_of h)
theorem seq_chain {f g : Op2} {σ : L2.St} {H : Hp} {Q : VK} (h : tE C W (mchain f g ma mb mc') σ H Q) : tChain (rO2 C f) (rO2 C g) (tE C W ma) (tE C W mb) (tE C W mc') σ H Q := by
  obtain ⟨ρ, env, hd, er, sh, p⟩ := h
  exact seqE er sh p fun v H1 ρ1 hd1 d x er1 sh1 r1 p1 => seqE er1 sh1 p1 fun v2 H2 ρ2 hd2 d2 x2 er2 sh2 r2 p2 => by
    refine ⟨ρ2, hd2, d, d2, sh2, Rel.ext x2 _ _ r1, r2, ?_⟩
    split at p2
    · rename_i e
      rw [e]
      intro H3 v3 x3 sh3 r3
      refine ⟨true, of_bl r3, ?_⟩
      rw [if_pos rfl]
      exact seqE (er2.ext x3) sh3 (p2.ext x3) fun v4 H4 ρ4 hd4 d4 x4 er4 sh4 r4 p4 => ⟨ρ4, hd4, d2, d4, sh4, Rel.ext (x3.trans x4) _ _ r2, r4, p4.fin sh4⟩
    · rename_i e
      rw [e]
      intro H3 v3 x3 sh3 r3
      refine ⟨false, of_bl r3, ?_⟩
      rw [if_neg Bool.false_ne_true]
      exact (p2.ext x3).here sh3 rel_bl
    · exact p2.elim
theorem ev_chain {op op' : CmpOp} {f g : Op2} (ho : OpR X (compareOp op) (rO2 C f)) (ho' : OpR X (compareOp op') (rO2 C g)) (ha : PE X a (tE C W ma)) (hb : PE X b (tE C W mb)) (hc : PE X c (tE C W mc'))
    (hm : lastMarks [op, op'] [b, c] = false) : PE X (.Compare a [op, op'] [b, c] pos) (tE C W (mchain f g ma mb mc')) := weakE (pe_chain ho ho' ha hb hc hm) fun _ _ _ h => seq_chain h
theorem evt_chain {op op' : CmpOp} {f g : Op2} (ho : OpR X (compareOp op) (rO2 C f)) (ho' : OpR X (compareOp op') (rO2 C g)) (ha : PE X a (tE C W ma)) (hb : PE X b (tE C W mb)) (hc : PE X c (tE C W mc'))
    (hm : lastMarks [op, op'] [b, c] = false) : PT X (.Compare a [op, op'] [b, c] pos) (tT C W (mbl (mchain f g ma mb mc'))) := weakT (pt_chain ho ho' ha hb hc hm) fun _ _ _ h => seq_chain (bl_of h)
theorem ev_ite (hc : PT X c (tT C W ta)) (ha : PE X a (tE C W ma)) (hb : PE X b (tE C W mb)) : PE X (.IfExp c a b pos) (tE C W (mite ta ma mb)) :=
  weakE (pe_ifExp hc ha hb) fun σ H Q ⟨ρ, env, hd, er, sh, p⟩ => seqT er sh p fun k H1 ρ1 hd1 x er1 sh1 p1 => by
    cases k with
    | true => exact ⟨ρ1, env, hd1, er1, sh1, p1⟩
    | false => exact ⟨ρ1, env, hd1, er1, sh1, p1⟩
theorem seq_fun {m : Bool} {f : OpN} {σ : L2.St} {H : Hp} {Q : VK} (h : tE C W (mfun m f ms) σ H Q) : tL C W ms σ H fun vs H1 => rON C f vs H1 Q := by
  obtain ⟨ρ, env, hd, er, sh, p⟩ := h
  exact seqL er sh p fun vs H1 ρ1 hd1 ds x er1 sh1 r1 p1 => ⟨ρ1, hd1, ds, sh1, r1, p1.fin sh1⟩
theorem ev_callB {m : Bool} {id : String} {x : Str} {pn : Pos} {f : OpN} (hc : CallR X (.builtin id) (rON C f)) (hg : Gl X x) (hm : X.mg x = none) (hv : bootBuiltins x = some (.builtin id)) (ha : PA X (e :: es) (tL C W ms))
    (hn : x ≠ "__name__") (hdb : (x == ("__debug__" : Str)) = false) (hs : noStars (e :: es) = true) : PE X (.Call (.Name x pn) (e :: es) [] pos) (tE C W (mfun m f ms)) := by
  have hs' : notStar e = true ∧ noStars es = true := by unfold noStars at hs; rwa [Bool.and_eq_true] at hs
  exact weakE (pe_callB hc hg hm hv ha hn hdb (starEach_at hs'.1) (plain_of hs'.2)) fun _ _ _ h => seq_fun h
theorem ev_callTy {m : Bool} {T : String} {x : Str} {pn : Pos} {f : OpN} (hc : CallR X (.type T) (rON C f)) (hg : Gl X x) (hm : X.mg x = none) (hv : bootBuiltins x = some (.type T)) (ha : PA X (e :: es) (tL C W ms))
    (hn : x ≠ "__name__") (hdb : (x == ("__debug__" : Str)) = false) (hs : noStars (e :: es) = true) : PE X (.Call (.Name x pn) (e :: es) [] pos) (tE C W (mfun m f ms)) := by
  have hs' : notStar e = true ∧ noStars es = true := by unfold noStars at hs; rwa [Bool.and_eq_true] at hs
  exact weakE (pe_callTy hc hg hm hv ha hn hdb (starEach_at hs'.1) (plain_of hs'.2)) fun _ _ _ h => seq_fun h
end
end EV


/-! EvG: the built-in functions. -/
namespace EV
open PySem PySem.Spec PyProof.Rows L2

def lenOf (d : D) (h : Hd) : Option Nat := match d with
  | .str s => some s.length
  | d => (seqOf d h).map List.length
def fLen : OpN
  | [d], h => (lenOf d h).map fun n => .v (.int n)
  | _, _ => none
def fAll : OpN
  | [d], h => match lstOf d h with
    | some xs => (blsOf xs).map fun bs => .v (.bl (bs.all id))
    | none => none
  | _, _ => none
def fAny : OpN
  | [d], h => match lstOf d h with
    | some xs => (blsOf xs).map fun bs => .v (.bl (bs.any id))
    | none => none
  | _, _ => none
def fSum : OpN
  | [d], h => match lstOf d h with
    | some xs => (intsOf xs).map fun ns => .v (.int ns.sum)
    | none => none
  | _, _ => none
def fAbs : OpN
  | [.int i], _ => some (.v (.int (if i < 0 then -i else i)))
  | _, _ => none
def fMax : OpN
  | [.int i, .int j], _ => some (.v (.int (if j > i then j else i)))
  | _, _ => none
def fMin : OpN
  | [.int i, .int j], _ => some (.v (.int (if j < i then j else i)))
  | _, _ => none
def fInt : OpN
  | [.int i], _ => some (.v (.int i))
  | [.bl b], _ => some (.v (.int (if b then 1 else 0)))
  | _, _ => none
def fDivmod : OpN
  | [.int i, .int j], _ => if 0 < j ∧ j < 1073741824 then some (.v (.tup [.int (i / j), .int (i % j)])) else none
  | _, _ => none
def fList : OpN
  | [d], h => (seqOf d h).map .new
  | _, _ => none
def fTuple : OpN
  | [d], h => (seqOf d h).map fun xs => .v (.tup xs)
  | _, _ => none
inductive TyN where
  | none | bool | int | str | tuple | list | dict
def TyN.nm : TyN → String
  | .none => "NoneType" | .bool => "bool" | .int => "int" | .str => "str" | .tuple => "tuple" | .list => "list" | .dict => "dict"
def tyOf (d : D) (h : Hd) : Option TyN := match d with
  | .non => some .none
  | .bl _ => some .bool
  | .int _ => some .int
  | .str _ => some .str
  | .tup _ => some .tuple
  | .lst _ => some .list
  | .scr _ => some .list
  | .dic _ _ => some .dict
  | .ref n => match h[n]? with
    | some (.lst _) => some .list
    | some (.dic _ _) => some .dict
    | _ => none
  | _ => none
def isSub : TyN → Ty → Bool
  | .bool, .bool => true | .bool, .int => true | .int, .int => true | .str, .str => true
  | .tuple, .tuple => true | .list, .list => true | .dict, .dict => true
  | _, _ => false
def fIsi : OpN
  | [d, .ty t], h => (tyOf d h).map fun n => .v (.bl (isSub n t))
  | _, _ => none

section
variable {X : Cx} {C : Ctx} {ρ : RhoT} {H : Hp} {hd : Hd} {pins : List (Addr × Obj)} {σ : L2.St} {s : Shared}
theorem relL1 {d : D} {vs : List V} (r : RelL C ρ H [d] vs) : ∃ v, vs = [v] ∧ Rel C ρ H d v := by
  simp only [RelL] at r
  obtain ⟨v, r, rfl, h, rfl⟩ := r
  exact ⟨v, rfl, h⟩
theorem relL2 {d e : D} {vs : List V} (r : RelL C ρ H [d, e] vs) : ∃ v w, vs = [v, w] ∧ Rel C ρ H d v ∧ Rel C ρ H e w := by
  simp only [RelL] at r
  obtain ⟨v, r, rfl, h, w, r, rfl, h2, rfl⟩ := r
  exact ⟨v, w, rfl, h, h2⟩
theorem bls_of : ∀ {xs : List D} {bs : List Bool} {vs : List V}, blsOf xs = some bs → RelL C ρ H xs vs → vs = bs.map V.bl
  | [], _, _, e, r => by simp only [blsOf, Option.some.injEq] at e; subst e; rw [RelL.nil_iff] at r; exact r
  | .bl b :: xs, _, _, e, r => by
    simp only [blsOf, Option.map_eq_some_iff] at e
    obtain ⟨bs, e, rfl⟩ := e
    simp only [RelL] at r
    obtain ⟨v, vs, rfl, r1, r2⟩ := r
    rw [of_bl r1, bls_of e r2]; rfl
  | .non :: _, _, _, e, _ => by cases e
  | .int _ :: _, _, _, e, _ => by cases e
  | .str _ :: _, _, _, e, _ => by cases e
  | .tup _ :: _, _, _, e, _ => by cases e
  | .lst _ :: _, _, _, e, _ => by cases e
  | .ref _ :: _, _, _, e, _ => by cases e
  | .fn _ :: _, _, _, e, _ => by cases e
  | .ty _ :: _, _, _, e, _ => by cases e
  | .cl _ :: _, _, _, e, _ => by cases e
  | .scr _ :: _, _, _, e, _ => by cases e
  | .dic _ _ :: _, _, _, e, _ => by cases e
theorem ints_of : ∀ {xs : List D} {bs : List Int} {vs : List V}, intsOf xs = some bs → RelL C ρ H xs vs → vs = bs.map V.int
  | [], _, _, e, r => by simp only [intsOf, Option.some.injEq] at e; subst e; rw [RelL.nil_iff] at r; exact r
  | .int b :: xs, _, _, e, r => by
    simp only [intsOf, Option.map_eq_some_iff] at e
    obtain ⟨bs, e, rfl⟩ := e
    simp only [RelL] at r
    obtain ⟨v, vs, rfl, r1, r2⟩ := r
    rw [of_int r1, ints_of e r2]; rfl
  | .non :: _, _, _, e, _ => by cases e
  | .bl _ :: _, _, _, e, _ => by cases e
  | .str _ :: _, _, _, e, _ => by cases e
  | .tup _ :: _, _, _, e, _ => by cases e
  | .lst _ :: _, _, _, e, _ => by cases e
  | .ref _ :: _, _, _, e, _ => by cases e
  | .fn _ :: _, _, _, e, _ => by cases e
  | .ty _ :: _, _, _, e, _ => by cases e
  | .cl _ :: _, _, _, e, _ => by cases e
  | .scr _ :: _, _, _, e, _ => by cases e
  | .dic _ _ :: _, _, _, e, _ => by cases e
theorem strs_of : ∀ {xs : List D} {bs : List Str} {vs : List V}, strsOf xs = some bs → RelL C ρ H xs vs → vs = bs.map V.str
  | [], _, _, e, r => by simp only [strsOf, Option.some.injEq] at e; subst e; rw [RelL.nil_iff] at r; exact r
  | .str b :: xs, _, _, e, r => by
    simp only [strsOf, Option.map_eq_some_iff] at e
    obtain ⟨bs, e, rfl⟩ := e
    simp only [RelL] at r
    obtain ⟨v, vs, rfl, r1, r2⟩ := r
    rw [(of_str r1).1, strs_of e r2]; rfl
  | .non :: _, _, _, e, _ => by cases e
  | .bl _ :: _, _, _, e, _ => by cases e
  | .int _ :: _, _, _, e, _ => by cases e
  | .tup _ :: _, _, _, e, _ => by cases e
  | .lst _ :: _, _, _, e, _ => by cases e
  | .ref _ :: _, _, _, e, _ => by cases e
  | .fn _ :: _, _, _, e, _ => by cases e
  | .ty _ :: _, _, _, e, _ => by cases e
  | .cl _ :: _, _, _, e, _ => by cases e
  | .scr _ :: _, _, _, e, _ => by cases e
  | .dic _ _ :: _, _, _, e, _ => by cases e

theorem fn_len (hK : X.K = C.K) : CallR X (.builtin "len") (rON C fLen) := by
  intro pins s σ H xs us Q I r ⟨ρ, hd, ds, sh, rl, p⟩
  unfold fLen at p
  split at p
  · rename_i d
    obtain ⟨v, rfl, r1⟩ := relL1 rl
    have go : ∀ d : D, (seqOf d hd).map List.length = lenOf d hd → Rel C ρ H d v → PostO C ρ H hd Q ((lenOf d hd).map fun n => .v (.int n)) → wpAny (model X.prog X.w) X.A (call (.builtin "len") us) (EP X pins σ Q) X.xe s := fun d e r1 p => by
      rw [← e] at p
      cases hq : seqOf d hd with
      | none => rw [hq] at p; exact p.elim
      | some ys =>
        rw [hq] at p
        obtain ⟨a, vs, rfl, t, rl, z⟩ := seq_of sh r1 hq
        exact L2.call_len_seq pins s σ H _ us Q I r ⟨a, vs, rfl, hK ▸ t, by rw [← rl.length]; exact p.v sh rel_int⟩
    cases d with
    | str z =>
      obtain ⟨rfl, hz⟩ := of_str r1
      exact L2.call_len_str pins s σ H _ us Q I r ⟨z, rfl, hz, p.v sh rel_int⟩
    | tup _ => exact go _ rfl r1 p
    | lst _ => exact go _ rfl r1 p
    | ref _ => exact go _ rfl r1 p
    | scr _ => exact go _ rfl r1 p
    | _ => exact p.elim
  · exact p.elim
theorem fn_all (hK : X.K = C.K) (hc : X.calm = true) : CallR X (.builtin "all") (rON C fAll) := by
  intro pins s σ H xs us Q I r ⟨ρ, hd, ds, sh, rl, p⟩
  unfold fAll at p
  split at p
  · split at p
    · rename_i ys e
      obtain ⟨v, rfl, r1⟩ := relL1 rl
      cases hb : blsOf ys with
      | none => rw [hb] at p; exact p.elim
      | some bs =>
        rw [hb] at p
        obtain ⟨a, vs, rfl, t, rl2, z⟩ := lst_of sh r1 e
        cases bls_of hb rl2
        exact cr_all hc pins s σ H _ us Q I r ⟨a, bs, rfl, .of t, p.v sh rel_bl⟩
    · exact p.elim
  · exact p.elim
theorem fn_any (hK : X.K = C.K) (hc : X.calm = true) : CallR X (.builtin "any") (rON C fAny) := by
  intro pins s σ H xs us Q I r ⟨ρ, hd, ds, sh, rl, p⟩
  unfold fAny at p
  split at p
  · split at p
    · rename_i ys e
      obtain ⟨v, rfl, r1⟩ := relL1 rl
      cases hb : blsOf ys with
      | none => rw [hb] at p; exact p.elim
      | some bs =>
        rw [hb] at p
        obtain ⟨a, vs, rfl, t, rl2, z⟩ := lst_of sh r1 e
        cases bls_of hb rl2
        exact cr_any hc pins s σ H _ us Q I r ⟨a, bs, rfl, .of t, p.v sh rel_bl⟩
    · exact p.elim
  · exact p.elim
theorem fn_sum (hK : X.K = C.K) (hc : X.calm = true) : CallR X (.builtin "sum") (rON C fSum) := by
  intro pins s σ H xs us Q I r ⟨ρ, hd, ds, sh, rl, p⟩
  unfold fSum at p
  split at p
  · split at p
    · rename_i ys e
      obtain ⟨v, rfl, r1⟩ := relL1 rl
      cases hb : intsOf ys with
      | none => rw [hb] at p; exact p.elim
      | some bs =>
        rw [hb] at p
        obtain ⟨a, vs, rfl, t, rl2, z⟩ := lst_of sh r1 e
        cases ints_of hb rl2
        exact cr_sum hc pins s σ H _ us Q I r ⟨a, bs, rfl, .of t, p.v sh rel_int⟩
    · exact p.elim
  · exact p.elim
theorem fn_abs : CallR X (.builtin "abs") (rON C fAbs) := by
  intro pins s σ H xs us Q I r ⟨ρ, hd, ds, sh, rl, p⟩
  unfold fAbs at p
  split at p
  · obtain ⟨v, rfl, r1⟩ := relL1 rl
    cases of_int r1
    exact call_abs pins s σ H _ us Q I r ⟨_, rfl, p.v sh rel_int⟩
  · exact p.elim
theorem fn_max (hc : X.calm = true) : CallR X (.builtin "max") (rON C fMax) := by
  intro pins s σ H xs us Q I r ⟨ρ, hd, ds, sh, rl, p⟩
  unfold fMax at p
  split at p
  · obtain ⟨v, w, rfl, r1, r2⟩ := relL2 rl
    cases of_int r1; cases of_int r2
    exact call_max2 hc pins s σ H _ us Q I r ⟨_, _, rfl, p.v sh rel_int⟩
  · exact p.elim
theorem fn_min (hc : X.calm = true) : CallR X (.builtin "min") (rON C fMin) := by
  intro pins s σ H xs us Q I r ⟨ρ, hd, ds, sh, rl, p⟩
  unfold fMin at p
  split at p
  · obtain ⟨v, w, rfl, r1, r2⟩ := relL2 rl
    cases of_int r1; cases of_int r2
    exact call_min2 hc pins s σ H _ us Q I r ⟨_, _, rfl, p.v sh rel_int⟩
  · exact p.elim
theorem fn_int : CallR X (.type "int") (rON C fInt) := by
  intro pins s σ H xs us Q I r ⟨ρ, hd, ds, sh, rl, p⟩
  unfold fInt at p
  split at p
  · obtain ⟨v, rfl, r1⟩ := relL1 rl
    cases of_int r1
    exact call_int1 pins s σ H _ us Q I r (.inl ⟨_, rfl, p.v sh rel_int⟩)
  · obtain ⟨v, rfl, r1⟩ := relL1 rl
    cases of_bl r1
    exact call_int1 pins s σ H _ us Q I r (.inr ⟨_, rfl, p.v sh rel_int⟩)
  · exact p.elim
theorem fn_divmod : CallR X (.builtin "divmod") (rON C fDivmod) := by
  intro pins s σ H xs us Q I r ⟨ρ, hd, ds, sh, rl, p⟩
  unfold fDivmod at p
  split at p
  · split at p
    · rename_i hj
      obtain ⟨v, w, rfl, r1, r2⟩ := relL2 rl
      cases of_int r1; cases of_int r2
      refine call_divmod pins s σ H _ us Q I r ⟨_, _, rfl, hj, fun a ha => ?_⟩
      exact p _ _ (Ext.upd_new ha) (sh.upd_new ha) (rel_tup sh ha (RelL.cons rel_int (RelL.cons rel_int RelL.nil)) (by simp [sizeLine_eq]))
    · exact p.elim
  · exact p.elim
theorem fn_list (hK : X.K = C.K) : CallR X (.type "list") (rON C fList) := by
  intro pins s σ H xs us Q I r ⟨ρ, hd, ds, sh, rl, p⟩
  unfold fList at p
  split at p
  · rename_i d
    obtain ⟨v, rfl, r1⟩ := relL1 rl
    cases hq : seqOf d hd with
    | none => rw [hq] at p; exact p.elim
    | some ys =>
      rw [hq] at p
      obtain ⟨a, vs, rfl, t, rl2, z⟩ := seq_of sh r1 hq
      exact call_list_of pins s σ H _ us Q I r ⟨a, vs, rfl, hK ▸ t, fun l hl => p l vs z hl rl2⟩
  · exact p.elim
theorem fn_tuple (hK : X.K = C.K) : CallR X (.type "tuple") (rON C fTuple) := by
  intro pins s σ H xs us Q I r ⟨ρ, hd, ds, sh, rl, p⟩
  unfold fTuple at p
  split at p
  · rename_i d
    obtain ⟨v, rfl, r1⟩ := relL1 rl
    cases hq : seqOf d hd with
    | none => rw [hq] at p; exact p.elim
    | some ys =>
      rw [hq] at p
      rcases seqOf_cases hq with rfl | h
      · obtain ⟨a, vs, rfl, t, rl2, z⟩ := tup_of r1
        exact call_tuple_of pins s σ H _ us Q I r ⟨a, vs, rfl, .inr ⟨hK ▸ t, p H _ Ext.refl sh r1⟩⟩
      · obtain ⟨a, vs, rfl, t, rl2, z⟩ : ∃ a vs, v = .ref a ∧ SqL C.K H a vs ∧ RelL C ρ H ys vs ∧ ys.length ≤ sizeLine := by
          rcases h with ⟨ns, rfl, rfl⟩ | h
          · obtain ⟨a, e, f, z⟩ := scr_of r1; exact ⟨a, _, e, f, relL_ints, by simpa using z⟩
          · obtain ⟨a, vs, e, f, q, z⟩ := lst_of sh r1 h; exact ⟨a, vs, e, .of f, q, z⟩
        exact call_tuple_of pins s σ H _ us Q I r ⟨a, vs, rfl, .inl ⟨hK ▸ t, fun l hl => p _ _ (Ext.upd_new hl) (sh.upd_new hl) (rel_tup sh hl rl2 z)⟩⟩
  · exact p.elim
theorem isSub_kit (n : TyN) (t : Ty) : kitB n.nm t.nm = some (isSub n t) := by
  cases n <;> cases t <;> decide +kernel
theorem tyOf_rel (hK : X.K = C.K) {d : D} {v : V} {n : TyN} (sh : SimH C ρ H hd) (r : Rel C ρ H d v) (e : tyOf d hd = some n) : TyX X.K H v (.type n.nm) := by
  have lstx : ∀ {a : Addr} {vs : List V}, H a = some (.lst vs) → TyX X.K H (.ref a) (.type "list") := fun h => .base (.lst h)
  cases d with
  | non => cases of_non r; cases e; exact .base .non
  | bl b => cases of_bl r; cases e; exact .base (.bl b)
  | int i => cases of_int r; cases e; exact .base (.int i)
  | str z => cases (of_str r).1; cases e; exact .base (.str z)
  | tup xs =>
    cases e
    simp only [Rel] at r
    obtain ⟨a, vs, rfl, t, _⟩ := r
    rcases t with ⟨t | ⟨o, t⟩, _⟩ | ⟨o, its, m, k1, k2, _⟩
    · exact .base (.tup t)
    · exact .fTuple t
    · exact .kTuple (hK ▸ k1) k2
  | lst xs =>
    cases e
    simp only [Rel] at r
    obtain ⟨a, vs, rfl, t, _⟩ := r
    exact lstx t.1
  | scr ns =>
    cases e
    simp only [Rel] at r
    obtain ⟨a, rfl, t, _⟩ := r
    rcases t with ⟨t | ⟨o, t⟩, _⟩ | ⟨o, its, m, k1, k2, _⟩
    · exact lstx t
    · exact .base (.frz t)
    · exact .kList (hK ▸ k1) k2
  | dic ks xs =>
    cases e
    simp only [Rel] at r
    obtain ⟨a, vs, rfl, t, _⟩ := r
    exact .base (.dK t.1)
  | ref m =>
    simp only [tyOf] at e
    simp only [Rel] at r
    obtain ⟨a, rfl, f⟩ := r
    split at e
    · rename_i xs h
      cases e
      obtain ⟨_, vs, t, _⟩ := sh.lst_at h f
      exact lstx t
    · rename_i ks xs h
      cases e
      rcases f with f | f
      · obtain ⟨o, h1, h2⟩ := sh.at_ m a f
        rw [h] at h1; cases h1
        obtain ⟨vs, t, _⟩ := h2
        exact .base (.dK t)
      · cases sh.live m _ h f
    · cases e
  | fn _ => cases e
  | ty _ => cases e
  | cl _ => cases e
theorem fn_isi (hK : X.K = C.K) : CallR X (.builtin "isinstance") (rON C fIsi) := by
  intro pins s σ H xs us Q I r ⟨ρ, hd, ds, sh, rl, p⟩
  unfold fIsi at p
  split at p
  · rename_i d t
    obtain ⟨v, w, rfl, r1, r2⟩ := relL2 rl
    have e2 : w = .ty t.nm := by simpa only [Rel] using r2
    subst e2
    cases hq : tyOf d hd with
    | none => rw [hq] at p; exact p.elim
    | some n =>
      rw [hq] at p
      exact call_isi pins s σ H _ us Q I r ⟨v, _, _, _, _, rfl, .ty _, tyOf_rel hK sh r1 hq, kit_ty (isSub_kit n t), p.v sh rel_bl⟩
  · exact p.elim
end
end EV


/-! EvH: slices, methods, lists that stop changing. -/
namespace EV
open PySem PySem.Spec PyProof.Rows L2

/-! ### slices -/
def cutD (xs : List D) (lo hi : Option Int) : List D := (xs.drop (HT.sIx xs.length 0 lo)).take (HT.sIx xs.length xs.length hi - HT.sIx xs.length 0 lo)
abbrev OpS := D → Option Int → Option Int → Hd → Option OV
def oSl : OpS := fun d lo hi h => match d with
  | .str s => some (.v (.str (cutS s lo hi)))
  | .tup xs => some (.v (.tup (cutD xs lo hi)))
  | d => (lstOf d h).map fun xs => .new (cutD xs lo hi)
/-- a slice's part -/
def mpart : Option (M D) → M (Option Int)
  | none => fun _ h => .ok none h
  | some a => fun env h => (a env h).bind fun x h1 => match x with
    | .int i => .ok (some i) h1
    | _ => .bad
def msl (m : Bool) (a : M D) (lo hi : M (Option Int)) : M D := fun env h => (a env h).bind fun x h1 => (lo env h1).bind fun l h2 => (hi env h2).bind fun u h3 => fin m (oSl x l u h3) h3

section
variable {X : Cx} {C : Ctx} {W : WX} {pos p2 : Pos} {a b c e : Expr} {es rest : List Expr} {ma mb mc' : M D} {ms : M (List D)} {ta tb : M Bool}
variable {ρ : RhoT} {H : Hp} {hd : Hd} {env : Env} {σ : L2.St}

theorem cutD_rel {xs : List D} {vs : List V} {lo hi : Option Int} (r : RelL C ρ H xs vs) : RelL C ρ H (cutD xs lo hi) (cutV vs lo hi) := by
  unfold cutD cutV
  rw [r.length]
  exact (r.drop _).take _
theorem cutD_len {xs : List D} {lo hi : Option Int} : (cutD xs lo hi).length ≤ xs.length := by
  unfold cutD
  rw [List.length_take, List.length_drop]
  omega
theorem cutV_whole {vs : List V} {lo hi : Option Int} (h : HT.sIx vs.length 0 lo = 0 ∧ HT.sIx vs.length vs.length hi = vs.length) : cutV vs lo hi = vs := by
  unfold cutV
  rw [h.1, h.2]
  simp
theorem cutD_whole {xs : List D} {lo hi : Option Int} (h : HT.sIx xs.length 0 lo = 0 ∧ HT.sIx xs.length xs.length hi = xs.length) : cutD xs lo hi = xs := by
  unfold cutD
  rw [h.1, h.2]
  simp
theorem sl_ok (hK : X.K = C.K) : SlR X (fun x lo hi H Q => ∃ ρ hd dx, SimH C ρ H hd ∧ Rel C ρ H dx x ∧ PostO C ρ H hd Q (oSl dx lo hi hd)) := by
  intro pins s σ H x v vl vu lo hi sl Q I rx hs pl pu ⟨ρ, hd, dx, sh, r1, p⟩
  have lst : ∀ d : D, (lstOf d hd).map (fun xs => OV.new (cutD xs lo hi)) = oSl d lo hi hd → Rel C ρ H d x → PostO C ρ H hd Q (oSl d lo hi hd) →
      ∃ T id, typeLookup (.type T) "__getitem__" = pure (some (.builtin id)) ∧ s.TypeIs v T ∧ wpAny (model X.prog X.w) X.A (getItem v (.ref sl)) (EP X pins σ Q) X.xe s := fun d e r1 p => by
    rw [← e] at p
    cases hq : lstOf d hd with
    | none => rw [hq] at p; exact p.elim
    | some ys =>
      rw [hq] at p
      obtain ⟨a, vs, rfl, t, rl, z⟩ := lst_of sh r1 hq
      exact sl_list pins s σ H _ v vl vu lo hi sl Q I rx hs pl pu ⟨a, vs, rfl, .of t, fun q hq => p q _ (Nat.le_trans cutD_len z) hq (cutD_rel rl)⟩
  cases dx with
  | str z =>
    obtain ⟨rfl, hz⟩ := of_str r1
    exact sl_str pins s σ H _ v vl vu lo hi sl Q I rx hs pl pu ⟨z, rfl, hz, p H _ Ext.refl sh (rel_str (Nat.le_trans (cutS_length _ _ _) hz))⟩
  | tup xs =>
    obtain ⟨a, vs, rfl, t, rl, z⟩ := tup_of r1
    refine sl_tupA pins s σ H _ v vl vu lo hi sl Q I rx hs pl pu ⟨a, vs, rfl, hK ▸ t, fun hw => ?_, fun hw q hq => ?_⟩
    · have hw' := hw
      rw [← rl.length] at hw'
      exact p H _ Ext.refl sh (by rw [cutD_whole hw']; exact r1)
    · exact p _ _ (Ext.upd_new hq) (sh.upd_new hq) (rel_tup sh hq (cutD_rel rl) (Nat.le_trans cutD_len z))
  | lst xs => exact lst _ rfl r1 p
  | ref n => exact lst _ rfl r1 p
  | _ => exact p.elim
def tO (C : Ctx) (W : WX) (m : M (Option Int)) : TO := fun σ H Q => ∃ ρ env hd, EnvRel C ρ H env σ ∧ SimH C ρ H hd ∧ PostX C (fun _ _ b b' => b' = b) ρ H (fun c d H' => W c d σ H') Q (m env hd)
theorem seqO {α β : Type} {R : RhoT → Hp → α → β → Prop} {Q : β → Hp → Prop} {m : M (Option Int)} {f : Option Int → Hd → Res α} {Q' : Option Int → Hp → Prop} (er : EnvRel C ρ H env σ) (sh : SimH C ρ H hd) (p : PostX C R ρ H (fun c d H' => W c d σ H') Q ((m env hd).bind f))
    (k : ∀ b H1 ρ1 hd1, Ext ρ ρ1 H H1 → EnvRel C ρ1 H1 env σ → SimH C ρ1 H1 hd1 → PostX C R ρ1 H1 (fun c d H' => W c d σ H') Q (f b hd1) → Q' b H1) : tO C W m σ H Q' :=
  ⟨ρ, env, hd, er, sh, (PostX.bind (R1 := fun _ _ b b' => b' = b) p).imp (fun v H1 ⟨ρ1, hd1, d, x, s, r, q⟩ => by subst r; exact k v H1 ρ1 hd1 x (er.ext x) s q) fun _ _ _ z => z⟩
theorem evo_none : PO X none (tO C W (mpart none)) := ⟨fun pins s σ H Q I ⟨ρ, env, hd, er, sh, p⟩ => po_none.run pins s σ H Q I (p.here sh rfl)⟩
theorem evo_some (ha : PE X e (tE C W ma)) : PO X (some e) (tO C W (mpart (some ma))) := ⟨fun pins s σ H Q I ⟨ρ, env, hd, er, sh, p⟩ => (po_some ha).run pins s σ H Q I
  (seqE er sh p fun v H1 ρ1 hd1 d x er1 sh1 r1 p1 => by
    split at p1
    · rename_i i
      exact ⟨i, of_int r1, p1.here sh1 rfl⟩
    · exact p1.elim)⟩
theorem ev_sl {m : Bool} {lo hi : Option Expr} {ml mh : M (Option Int)} (hK : X.K = C.K) (ha : PE X a (tE C W ma)) (hl : PO X lo (tO C W ml)) (hh : PO X hi (tO C W mh)) : PE X (.Subscript a (.Slice lo hi none p2) pos) (tE C W (msl m ma ml mh)) :=
  weakE (pe_slice (sl_ok hK) ha hl hh) fun σ H Q ⟨ρ, env, hd, er, sh, p⟩ =>
    seqE er sh p fun v H1 ρ1 hd1 d x er1 sh1 r1 p1 => seqO er1 sh1 p1 fun l H2 ρ2 hd2 x2 er2 sh2 p2 => seqO er2 sh2 p2 fun u H3 ρ3 hd3 x3 er3 sh3 p3 => ⟨ρ3, hd3, d, sh3, Rel.ext (x2.trans x3) _ _ r1, p3.fin sh3⟩

/-! ### a list that changes no more -/
def mfz (a : M D) : M D := fun env h => (a env h).bind fun x h1 => match x with
  | .ref n => match h1[n]? with
    | some (.lst xs) => .ok (.lst xs) (h1.set n .dead)
    | some (.dic ks xs) => .ok (.dic ks xs) (h1.set n .dead)
    | _ => .bad
  | _ => .bad
theorem ev_fz (ha : PE X e (tE C W ma)) : PE X e (tE C W (mfz ma)) :=
  weakE ha fun σ H Q ⟨ρ, env, hd, er, sh, p⟩ => seqE er sh p fun v H1 ρ1 hd1 d x er1 sh1 r1 p1 => by
    split at p1
    · rename_i n
      simp only [Rel] at r1
      obtain ⟨a, rfl, f⟩ := r1
      split at p1
      · rename_i xs h
        obtain ⟨f', vs, t, rl, z⟩ := sh1.lst_at h f
        refine p1 _ _ _ Ext.freeze sh1.freeze ?_
        simp only [Rel]
        exact ⟨a, vs, rfl, ⟨t, sh1.unm_drop f'⟩, RelL.ext Ext.freeze _ _ rl, z⟩
      · rename_i ks xs h
        have f' : ρ1.r[n]? = some (some a) := by
          rcases f with f | f
          · exact f
          · cases sh1.live n _ h f
        obtain ⟨o, h1, h2⟩ := sh1.at_ n a f'
        rw [h] at h1; cases h1
        obtain ⟨vs, t, rl, z⟩ := (show ∃ vs, H1 a = some (.dK (ks.zip vs)) ∧ RelL C ρ1 H1 xs vs ∧ ks.length = xs.length from h2)
        refine p1 _ _ _ Ext.freeze sh1.freeze ?_
        simp only [Rel]
        exact ⟨a, vs, rfl, ⟨t, sh1.unm_drop f'⟩, RelL.ext Ext.freeze _ _ rl, z⟩
      · exact p1.elim
    · exact p1.elim

/-! ### methods: the receiver, then the arguments; they may change the receiver -/
abbrev OpM := D → List D → Hd → Option (D × Hd)
def PostM (C : Ctx) (ρ : RhoT) (H : Hp) (Q : VK) : Option (D × Hd) → Prop
  | none => False
  | some (d, hd') => ∀ H' v, Ext ρ ρ H H' → SimH C ρ H' hd' → Rel C ρ H' d v → Q v H'
def rOM (C : Ctx) (f : OpM) : V → List V → Hp → VK → Prop := fun x xs H Q => ∃ ρ hd dx ds, SimH C ρ H hd ∧ Rel C ρ H dx x ∧ RelL C ρ H ds xs ∧ PostM C ρ H Q (f dx ds hd)
def resM : Option (D × Hd) → Res D
  | none => .bad
  | some (d, h) => .ok d h
/-- g: whether the receiver is of the method's type -/
def mmeth (g : D → Hd → Bool) (f : OpM) (o : M D) (as : M (List D)) : M D := fun env h => (o env h).bind fun x h1 => if g x h1 then (as env h1).bind fun xs h2 => resM (f x xs h2) else .bad
theorem PostX.resM {W' : Value → Option Addr → Hp → Prop} {Q : VK} {r : Option (D × Hd)} (p : PostX C (Rel C) ρ H W' Q (resM r)) : PostM C ρ H Q r := by
  cases r with
  | none => exact p
  | some o => exact fun H' v x s r => p ρ H' v x s r
def isLst (d : D) (h : Hd) : Bool := (lstOf d h).isSome
def isStr (d : D) (_ : Hd) : Bool := match d with
  | .str _ => true
  | _ => false
def fAppend : OpM
  | .ref n, [y], h => match h[n]? with
    | some (.lst xs) => if xs.length < sizeLine then some (.non, h.set n (.lst (xs ++ [y]))) else none
    | _ => none
  | _, _, _ => none
def fPop : OpM
  | .ref n, [.int i], h => match h[n]? with
    | some (.lst xs) => if 0 ≤ i ∧ i < xs.length then (xs[i.toNat]?).map fun y => (y, h.set n (.lst (xs.eraseIdx i.toNat))) else none
    | _ => none
  | _, _, _ => none
def fExtend : OpM
  | .ref n, [d], h => match h[n]?, lstOf d h with
    | some (.lst xs), some ys => if xs.length + ys.length ≤ sizeLine then some (.non, h.set n (.lst (xs ++ ys))) else none
    | _, _ => none
  | _, _, _ => none
def fJoin : OpM
  | .str a, [d], h => match seqOf d h with
    | some ys => match strsOf ys with
      | some zs => if (zs.map (·.length)).sum + zs.length * a.length ≤ 16777216 then some (.str (Str.join a zs), h) else none
      | none => none
    | none => none
  | _, _, _ => none
theorem ref_lst {n : Nat} {xs : List D} {v : V} (sh : SimH C ρ H hd) (r : Rel C ρ H (.ref n) v) (h : hd[n]? = some (.lst xs)) : ∃ a vs, v = .ref a ∧ ρ.r[n]? = some (some a) ∧ H a = some (.lst vs) ∧ RelL C ρ H xs vs ∧ xs.length ≤ sizeLine := by
  simp only [Rel] at r
  obtain ⟨a, rfl, f⟩ := r
  obtain ⟨f', vs, t, rl, z⟩ := sh.lst_at h f
  exact ⟨a, vs, rfl, f', t, rl, z⟩
theorem mt_app : MtR X "list.append" (rOM C fAppend) := by
  intro pins s σ H x xs v us Q I rx rs ⟨ρ, hd, dx, ds, sh, r1, rl, p⟩
  unfold fAppend at p
  split at p
  · rename_i n y
    split at p
    · rename_i ys h
      split at p
      · rename_i hz
        obtain ⟨w, rfl, r2⟩ := relL1 rl
        obtain ⟨a, vs, rfl, f, t, rl2, z⟩ := ref_lst sh r1 h
        refine mt_append pins s σ H _ _ v us Q I rx rs ⟨a, vs, w, rfl, rfl, t, by rw [← rl2.length]; exact hz, ?_⟩
        exact p _ _ (Ext.store f t) (sh.store f t (rl2.append (RelL.cons r2 RelL.nil)) (by simpa using (show ys.length + 1 ≤ sizeLine from hz))) rel_non
      · exact p.elim
    · exact p.elim
  · exact p.elim
theorem mt_popI : MtR X "list.pop" (rOM C fPop) := by
  intro pins s σ H x xs v us Q I rx rs ⟨ρ, hd, dx, ds, sh, r1, rl, p⟩
  unfold fPop at p
  split at p
  · rename_i n i
    split at p
    · rename_i ys h
      split at p
      · rename_i hi
        obtain ⟨w, rfl, r2⟩ := relL1 rl
        cases of_int r2
        obtain ⟨a, vs, rfl, f, t, rl2, z⟩ := ref_lst sh r1 h
        cases e : ys[i.toNat]? with
        | none => rw [e] at p; exact p.elim
        | some y =>
          rw [e] at p
          obtain ⟨u, eu, ru⟩ := rl2.get e
          have hl := rl2.length
          have h63 := line63
          refine mt_popAt pins s σ H _ _ v us Q I rx rs ⟨a, vs, i, i.toNat, u, rfl, rfl, t, by omega, by omega, ?_, eu, ?_⟩
          · exact (ixN_seq (by unfold ixN; rw [if_pos hi.1, if_pos (by rw [← hl]; exact hi.2)])).1
          · exact p _ _ (Ext.store f t) (sh.store f t (rl2.eraseIdx _) (Nat.le_trans (len_erase _ _) z)) (Rel.ext (Ext.store f t) _ _ ru)
      · exact p.elim
    · exact p.elim
  · exact p.elim
theorem mt_ext : MtR X "list.extend" (rOM C fExtend) := by
  intro pins s σ H x xs v us Q I rx rs ⟨ρ, hd, dx, ds, sh, r1, rl, p⟩
  unfold fExtend at p
  split at p
  · rename_i n d
    split at p
    · rename_i ys zs h e
      split at p
      · rename_i hz
        obtain ⟨w, rfl, r2⟩ := relL1 rl
        obtain ⟨a, vs, rfl, f, t, rl2, z⟩ := ref_lst sh r1 h
        obtain ⟨b, ws, rfl, t2, rl3, z3⟩ := lst_of sh r2 e
        have h1 := rl2.length
        have h2 := rl3.length
        refine mt_extend pins s σ H _ _ v us Q I rx rs ⟨a, b, vs, ws, rfl, rfl, t, t2, by omega, ?_⟩
        exact p _ _ (Ext.store f t) (sh.store f t (rl2.append rl3) (by simpa using hz)) rel_non
      · exact p.elim
    · exact p.elim
  · exact p.elim
theorem join_len (a : Str) : ∀ zs : List Str, (Str.join a zs).length ≤ (zs.map (·.length)).sum + zs.length * a.length
  | [] => Nat.zero_le _
  | [z] => by simp [Str.join]
  | z :: y :: zs => by
    have ih := join_len a (y :: zs)
    show ((z ++ a) ++ Str.join a (y :: zs)).length ≤ _
    rw [len_app, len_app]
    simp only [List.map_cons, List.sum_cons, List.length_cons] at ih ⊢
    rw [Nat.add_mul (zs.length + 1) 1]
    omega
theorem mt_joinS (hK : X.K = C.K) : MtR X "str.join" (rOM C fJoin) := by
  intro pins s σ H x xs v us Q I rx rs ⟨ρ, hd, dx, ds, sh, r1, rl, p⟩
  unfold fJoin at p
  split at p
  · rename_i a d
    split at p
    · rename_i ys e
      split at p
      · rename_i zs e2
        split at p
        · rename_i hz
          obtain ⟨w, rfl, r2⟩ := relL1 rl
          obtain ⟨rfl, _⟩ := of_str r1
          obtain ⟨b, vs, rfl, t, rl2, z⟩ := seq_of sh r2 e
          cases strs_of e2 rl2
          refine mt_join pins s σ H _ _ v us Q I rx rs ⟨a, b, zs, rfl, rfl, hK ▸ t, hz, ?_⟩
          show Q (.str (Builtin.Str.glued a zs)) H
          rw [StrLaws.glued_eq_join]
          exact p _ _ Ext.refl sh (rel_str (by rw [sizeLine_eq]; exact Nat.le_trans (join_len a zs) hz))
        · exact p.elim
      · exact p.elim
    · exact p.elim
  · exact p.elim
end
end EV


/-! EvI: calls of methods; what a loop walks; targets; list comprehensions. -/
namespace EV
open PySem PySem.Spec PyProof.Rows L2
section
variable {X : Cx} {C : Ctx} {W : WX} {pos cpos apos p2 : Pos} {a b c e o tg : Expr} {es rest : List Expr} {ma mb mo : M D} {ms : M (List D)} {ta tb : M Bool}
variable {ρ : RhoT} {H : Hp} {hd : Hd} {env : Env} {σ : L2.St}

/-! ### o.m(..) of a built-in type -/
def baseOk : Expr → Bool
  | .Call (.Name _ _) [] [] _ => false
  | _ => true
theorem base_of {name : Str} {env : PySem.Env} (h : baseOk o = true) : attributeBase o name env (eval o env) = eval o env := by
  cases o with
  | Call f as ks p =>
    cases f with
    | Name x p1 =>
      cases as with
      | nil =>
        cases ks with
        | nil => cases h
        | cons _ _ => rfl
      | cons _ _ => rfl
    | _ => rfl
  | _ => rfl
theorem few_of {env : PySem.Env} (h : notStar e = true) : ((backTo cpos (starEach [e] env)).all (fun x => !x.1) && (backToKw cpos (keywordEach [] env)).all (fun x => x.1.isSome)
      && decide (([e] : List Expr).length + ([] : List Keyword).length + (if ([] : List Keyword).isEmpty then 0 else 1) < 30)) = true := by
  rw [starEach_at h]
  rfl
theorem ev_meth1 {g : D → Hd → Bool} {f : OpM} {name : Str} {T id : String} (pa : PlainAttrs T) (slot : Slot T name id) (hty : typeOf (.builtin id) = pure (.type "method_descriptor")) (hm : MtR X id (rOM C f))
    (hg : ∀ (ρ : RhoT) (H : Hp) (hd : Hd) (d : D) (v : V), SimH C ρ H hd → Rel C ρ H d v → g d hd = true → tyV X.K T v H) (ho : PE X o (tE C W mo)) (ha : PA X [e] (tL C W ms))
    (hb : baseOk o = true) (hs : notStar e = true) (hline : (apos.endLine == cpos.line) = true) : PE X (.Call (.Attribute o name apos) [e] [] cpos) (tE C W (mmeth g f mo ms)) :=
  weakE (pe_bm pa slot hty hm ho ha (base_of hb) (few_of hs) hline (starEach_at hs) rfl) fun σ H Q ⟨ρ, env, hd, er, sh, p⟩ => seqE er sh p fun v H1 ρ1 hd1 d x er1 sh1 r1 p1 => by
    split at p1
    · rename_i hg1
      exact ⟨hg _ _ _ _ _ sh1 r1 hg1, seqL er1 sh1 p1 fun ws H2 ρ2 hd2 ds x2 er2 sh2 r2 p2 => ⟨ρ2, hd2, d, ds, sh2, Rel.ext x2 _ _ r1, r2, p2.resM⟩⟩
    · exact p1.elim
theorem ev_meth0 {g : D → Hd → Bool} {f : OpM} {name : Str} {T id : String} (pa : PlainAttrs T) (slot : Slot T name id) (hty : typeOf (.builtin id) = pure (.type "method_descriptor")) (hm : MtR X id (rOM C f))
    (hg : ∀ (ρ : RhoT) (H : Hp) (hd : Hd) (d : D) (v : V), SimH C ρ H hd → Rel C ρ H d v → g d hd = true → tyV X.K T v H) (ho : PE X o (tE C W mo))
    (hb : baseOk o = true) (hline : (apos.endLine == cpos.line) = true) : PE X (.Call (.Attribute o name apos) [] [] cpos) (tE C W (mmeth g f mo mnil)) :=
  weakE (pe_bm0 pa slot hty hm ho (base_of hb) hline) fun σ H Q ⟨ρ, env, hd, er, sh, p⟩ => seqE er sh p fun v H1 ρ1 hd1 d x er1 sh1 r1 p1 => by
    split at p1
    · rename_i hg1
      exact ⟨hg _ _ _ _ _ sh1 r1 hg1, ρ1, hd1, d, [], sh1, r1, RelL.nil, p1.resM⟩
    · exact p1.elim
theorem isLst_ty (hK : X.K = C.K) (ρ : RhoT) (H : Hp) (hd : Hd) (d : D) (v : V) (sh : SimH C ρ H hd) (r : Rel C ρ H d v) (h : isLst d hd = true) : tyV X.K "list" v H := by
  unfold isLst at h
  cases q : lstOf d hd with
  | none => rw [q] at h; cases h
  | some xs =>
    obtain ⟨a, vs, rfl, t, _⟩ := lst_of sh r q
    exact .inl ⟨rfl, vs, .of t⟩
theorem isStr_ty (ρ : RhoT) (H : Hp) (hd : Hd) (d : D) (v : V) (sh : SimH C ρ H hd) (r : Rel C ρ H d v) (h : isStr d hd = true) : tyV X.K "str" v H := by
  cases d with
  | str z => obtain ⟨rfl, _⟩ := of_str r; exact rfl
  | _ => cases h

/-! ### what a loop walks -/
structure IRel (C : Ctx) (ρ : RhoT) (H : Hp) (items : List D) (J : It) : Prop where
  len : items.length ≤ sizeLine
  go : ∀ (ρ' : RhoT) (H' : Hp) (i : Nat), Keeps ρ ρ' H H' → i < items.length → J.go i H'
  yld : ∀ (ρ' : RhoT) (H' : Hp) (i : Nat) (x : V) (H'' : Hp) (hd' : Hd) (d : D), Keeps ρ ρ' H H' → SimH C ρ' H' hd' → items[i]? = some d → J.yld i H' x H'' → Ext ρ' ρ' H' H'' ∧ SimH C ρ' H'' hd' ∧ Rel C ρ' H'' d x
  stop : ∀ (ρ' : RhoT) (H' : Hp), Keeps ρ ρ' H H' → J.stop items.length H'
abbrev MI := M (List D)
def tI (C : Ctx) (W : WX) (m : MI) : TI := fun σ H R => ∃ ρ env hd, EnvRel C ρ H env σ ∧ SimH C ρ H hd ∧ PostX C (IRel C) ρ H (fun c d H' => W c d σ H') R (m env hd)
theorem weakI {t t' : TI} (h : PI X tg e t) (w : ∀ σ H Q, t' σ H Q → t σ H Q) : PI X tg e t' := ⟨fun pins s σ H Q I q => h.run pins s σ H Q I (w σ H Q q)⟩
theorem orI {t t' : TI} (h : PI X tg e t) (h' : PI X tg e t') : PI X tg e (fun σ H Q => t σ H Q ∨ t' σ H Q) := ⟨fun pins s σ H Q I q => q.elim (h.run pins s σ H Q I) (h'.run pins s σ H Q I)⟩
def itemsOf : D → Option (List D)
  | .tup xs => some xs
  | .lst xs => some xs
  | .scr ns => some (ns.map .int)
  | .str s => some (s.cps.toList.map fun c => .str ⟨#[c]⟩)
  | _ => none
def iseq (a : M D) : MI := fun env h => (a env h).bind fun x h1 => match itemsOf x with
  | some xs => .ok xs h1
  | none => .bad
/-- range(n), range(a, b) -/
def irange1 : List D → Option (List D)
  | [.int j] => if -(2 ^ 62) ≤ j ∧ j ≤ 16777216 then some ((List.range j.toNat).map fun k : Nat => .int (k : Int)) else none
  | _ => none
def irange2 : List D → Option (List D)
  | [.int i, .int j] => if -16777216 ≤ i ∧ i ≤ 16777216 ∧ -16777216 ≤ j ∧ j - i ≤ 16777216 then some ((List.range (j - i).toNat).map fun k : Nat => .int (i + (k : Int))) else none
  | _ => none
def irng (f : List D → Option (List D)) (as : M (List D)) : MI := fun env h => (as env h).bind fun xs h1 => match f xs with
  | some ys => .ok ys h1
  | _ => .bad
theorem irel_list {xs : List D} {a : Addr} {vs : List V} (hs : ∀ ρ' H', Keeps ρ ρ' H H' → SqL C.K H' a vs) (r : RelL C ρ H xs vs) (hz : xs.length ≤ sizeLine) : IRel C ρ H xs (Itl C.K a) where
  len := hz
  go := fun ρ' H' i k hi => by
    have hl := r.length
    exact ⟨vs, vs[i]'(by omega), hs ρ' H' k, by simp⟩
  yld := fun ρ' H' i x H'' hd' d k s e ⟨e1, e2⟩ => by
    subst e1
    obtain ⟨v, h1, h2⟩ := r.get e
    have := e2 vs (hs ρ' H'' k)
    rw [h1] at this; cases this
    exact ⟨Ext.refl, s, Rel.keeps k _ _ h2⟩
  stop := fun ρ' H' k => ⟨vs, hs ρ' H' k, by rw [r.length]; exact Nat.le_refl _⟩
theorem irel_tup {xs : List D} {a : Addr} {vs : List V} (hs : ∀ ρ' H', Keeps ρ ρ' H H' → SqT C.K H' a vs) (r : RelL C ρ H xs vs) (hz : xs.length ≤ sizeLine) : IRel C ρ H xs (Itt C.K a) where
  len := hz
  go := fun ρ' H' i k hi => by
    have hl := r.length
    exact ⟨vs, vs[i]'(by omega), hs ρ' H' k, by simp⟩
  yld := fun ρ' H' i x H'' hd' d k s e ⟨e1, e2⟩ => by
    subst e1
    obtain ⟨v, h1, h2⟩ := r.get e
    have := e2 vs (hs ρ' H'' k)
    rw [h1] at this; cases this
    exact ⟨Ext.refl, s, Rel.keeps k _ _ h2⟩
  stop := fun ρ' H' k => ⟨vs, hs ρ' H' k, by rw [r.length]; exact Nat.le_refl _⟩
theorem irel_range {lo : Int} {n : Nat} (hz : n ≤ sizeLine) : IRel C ρ H ((List.range n).map fun k : Nat => .int (lo + (k : Int))) (Itr lo n) where
  len := by simpa using hz
  go := fun ρ' H' i k hi => by show i < n; simpa using hi
  yld := fun ρ' H' i x H'' hd' d k s e ⟨e1, e2⟩ => by
    subst e1 e2
    have hi : i < n := by simpa using (List.getElem?_eq_some_iff.mp e).1
    rw [List.getElem?_map, List.getElem?_range hi] at e
    cases e; exact ⟨Ext.refl, s, rel_int⟩
  stop := fun ρ' H' k => by show n ≤ _; simp
theorem irel_str {z : Str} (hz : z.length ≤ sizeLine) : IRel C ρ H (z.cps.toList.map fun c => .str ⟨#[c]⟩) (Its z) where
  len := by rw [List.length_map, Array.length_toList]; exact hz
  go := fun ρ' H' i k hi => by show i < z.cps.size; simpa using hi
  yld := fun ρ' H' i x H'' hd' d k s e ⟨e1, c, e2, e3⟩ => by
    subst e1 e3
    rw [List.getElem?_map, Array.getElem?_toList, e2] at e
    cases e
    exact ⟨Ext.refl, s, rel_str (by show 1 ≤ sizeLine; rw [sizeLine_eq]; decide)⟩
  stop := fun ρ' H' k => by show z.cps.size ≤ _; simp
theorem evi_seq (hK : X.K = C.K) (he : PE X e (tE C W ma)) : PI X tg e (tI C W (iseq ma)) :=
  weakI (orI (pi_list he) (orI (pi_tup he) (pi_str he))) fun σ H R ⟨ρ, env, hd, er, sh, p⟩ => by
    cases hm : ma env hd with
    | bad => unfold iseq at p; rw [hm] at p; exact p.elim
    | exc x h =>
      refine .inl ⟨ρ, env, hd, er, sh, ?_⟩
      unfold iseq at p
      rw [hm] at p ⊢
      exact p
    | ok d h =>
      have pw := p
      unfold iseq at pw
      rw [hm] at pw
      have mk : ∀ {Q' : VK}, (∀ ρ' H' v, Ext ρ ρ' H H' → SimH C ρ' H' h → Rel C ρ' H' d v → Q' v H') → tE C W ma σ H Q' := fun q => ⟨ρ, env, hd, er, sh, by rw [hm]; exact q⟩
      cases d with
      | tup xs =>
        refine .inr (.inl (mk fun ρ1 H1 v x s r => ?_))
        have r0 := r
        simp only [Rel] at r
        obtain ⟨a, vs, rfl, t, rl, z⟩ := r
        exact ⟨a, rfl, ⟨vs, hK ▸ t.sq⟩, hK ▸ pw ρ1 H1 _ x s (irel_tup (fun ρ' H' k => (t.keeps k).sq) rl z)⟩
      | lst xs =>
        refine .inl (mk fun ρ1 H1 v x s r => ?_)
        simp only [Rel] at r
        obtain ⟨a, vs, rfl, t, rl, z⟩ := r
        exact ⟨a, rfl, ⟨vs, .of t.1⟩, hK ▸ pw ρ1 H1 _ x s (irel_list (fun ρ' H' k => .of (k.frz _ _ t.1 t.2).1) rl z)⟩
      | scr ns =>
        refine .inl (mk fun ρ1 H1 v x s r => ?_)
        simp only [Rel] at r
        obtain ⟨a, rfl, t, z⟩ := r
        exact ⟨a, rfl, ⟨_, hK ▸ t.sq⟩, hK ▸ pw ρ1 H1 _ x s (irel_list (fun ρ' H' k => (t.keeps k).sq) relL_ints (by simpa using z))⟩
      | str z =>
        refine .inr (.inr (mk fun ρ1 H1 v x s r => ?_))
        exact ⟨z, (of_str r).1, pw ρ1 H1 _ x s (irel_str (of_str r).2)⟩
      | _ => exact pw.elim
theorem evi_range1 {p q : Pos} (hg : Gl X "range") (hm : X.mg "range" = none) (ha : PA X [a] (tL C W ms)) (hs : notStar a = true) : PI X tg (.Call (.Name "range" p) [a] [] q) (tI C W (irng irange1 ms)) :=
  weakI (pi_range1 hg hm ha (starEach_at hs)) fun σ H R ⟨ρ, env, hd, er, sh, p⟩ => by
    refine ⟨ρ, env, hd, er, sh, ?_⟩
    unfold irng at p
    refine (PostX.bind (R1 := RelL C) p).imp (fun vs H1 ⟨ρ1, hd1, ds, x, s, r, q⟩ => ?_) fun _ _ _ z => z
    unfold irange1 at q
    split at q
    · rename_i ys e
      split at e
      · rename_i j
        split at e
        · rename_i hj
          cases e
          obtain ⟨v, rfl, r1⟩ := relL1 r
          cases of_int r1
          refine ⟨j, rfl, hj.1, by omega, ?_⟩
          have ir : IRel C ρ1 H1 ((List.range j.toNat).map fun k : Nat => .int (0 + (k : Int))) (Itr 0 j.toNat) := irel_range (by rw [sizeLine_eq]; omega)
          simp only [Int.zero_add] at ir
          exact q.here s ir
        · cases e
      · cases e
    · exact q.elim
theorem evi_range2 {p q : Pos} (hg : Gl X "range") (hm : X.mg "range" = none) (ha : PA X [a, b] (tL C W ms)) (hs : notStar a = true) (hs2 : notStar b = true) : PI X tg (.Call (.Name "range" p) [a, b] [] q) (tI C W (irng irange2 ms)) :=
  weakI (pi_range2 hg hm ha (by rw [starEach_at hs, starEach_at hs2]; rfl) (starEach_at hs2)) fun σ H R ⟨ρ, env, hd, er, sh, p⟩ => by
    refine ⟨ρ, env, hd, er, sh, ?_⟩
    unfold irng at p
    refine (PostX.bind (R1 := RelL C) p).imp (fun vs H1 ⟨ρ1, hd1, ds, x, s, r, q⟩ => ?_) fun _ _ _ z => z
    unfold irange2 at q
    split at q
    · rename_i ys e
      split at e
      · rename_i i j
        split at e
        · rename_i hj
          cases e
          obtain ⟨v, w, rfl, r1, r2⟩ := relL2 r
          cases of_int r1; cases of_int r2
          exact ⟨i, j, rfl, by omega, q.here s (irel_range (by rw [sizeLine_eq]; omega))⟩
        · cases e
      · cases e
    · exact q.elim

/-! ### targets -/
abbrev MG := D → Env → Hd → Option (Env × Hd)
/-- sl: the slots that it sets -/
def tG (C : Ctx) (sl : List Nat) (f : MG) : TG := fun v σ H Q => ∃ ρ env hd d, EnvRel C ρ H env σ ∧ SimH C ρ H hd ∧ Rel C ρ H d v ∧
  match f d env hd with
  | none => False
  | some (env', hd') => ∀ ρ' H' σ', Ext ρ ρ' H H' → SimH C ρ' H' hd' → EnvRel C ρ' H' env' σ' → (σ'.length = σ.length ∧ ∀ j : Nat, j ∉ sl → σ'[j]? = σ[j]?) → Q σ' H'
def gname (i : Nat) : MG := fun d env h => some (env.set i (some d), h)
def gtup (gs : List MG) : MG := fun d env h => match d with
  | .tup xs => if xs.length = gs.length then go gs xs env h else none
  | _ => none
where go : List MG → List D → Env → Hd → Option (Env × Hd)
  | g :: gs, x :: xs, env, h => match g x env h with
    | some (env', h') => go gs xs env' h'
    | none => none
  | _, _, env, h => some (env, h)
def tGs (C : Ctx) (sl : List Nat) (gs : List MG) : TGs := fun vs σ H Q => ∃ ρ env hd ds, EnvRel C ρ H env σ ∧ SimH C ρ H hd ∧ RelL C ρ H ds vs ∧ ds.length = gs.length ∧
  match gtup.go gs ds env hd with
  | none => False
  | some (env', hd') => ∀ ρ' H' σ', Ext ρ ρ' H H' → SimH C ρ' H' hd' → EnvRel C ρ' H' env' σ' → (σ'.length = σ.length ∧ ∀ j : Nat, j ∉ sl → σ'[j]? = σ[j]?) → Q σ' H'
theorem weakG {t t' : TG} (h : PG X tg t) (w : ∀ v σ H Q, t' v σ H Q → t v σ H Q) : PG X tg t' := ⟨fun pins s σ H v u Q I r q => h.run pins s σ H v u Q I r (w v σ H Q q)⟩
theorem weakGs {ts : List Expr} {t t' : TGs} (h : PGs X ts t) (w : ∀ v σ H Q, t' v σ H Q → t v σ H Q) : PGs X ts t' := ⟨fun pins s σ H v u Q I r q => h.run pins s σ H v u Q I r (w v σ H Q q)⟩
theorem evg_name {i : Nat} (h : PG X tg (gName i)) : PG X tg (tG C [i] (gname i)) := weakG h fun v σ H Q ⟨ρ, env, hd, d, er, sh, r, q⟩ =>
  q ρ H _ Ext.refl sh (er.set i r) ⟨by simp, fun j hj => List.getElem?_set_ne (fun z => hj (by simp [z]))⟩
theorem evgs_nil : PGs X [] (tGs C [] []) := weakGs pgs_nil fun vs σ H Q ⟨ρ, env, hd, ds, er, sh, r, hl, q⟩ => by
  have e : ds = [] := by simpa using hl
  subst e
  rw [RelL.nil_iff] at r
  exact ⟨r, q ρ H σ Ext.refl sh er ⟨rfl, fun _ _ => rfl⟩⟩
theorem assign_at {env : PySem.Env} (h : notStar e = true) : (assignEach (e :: es) env).map (·.2) = assign e env :: (assignEach es env).map (·.2) := by
  cases e <;> first | rfl | cases h
theorem evgs_cons {s1 s2 : List Nat} {g : MG} {gs : List MG} (h1 : PG X e (tG C s1 g)) (h2 : PGs X es (tGs C s2 gs)) (hs : notStar e = true) : PGs X (e :: es) (tGs C (s1 ++ s2) (g :: gs)) :=
  weakGs (pgs_cons h1 h2 (assign_at hs)) fun vs σ H Q ⟨ρ, env, hd, ds, er, sh, r, hl, q⟩ => by
    cases ds with
    | nil => simp at hl
    | cons d ds =>
      simp only [RelL] at r
      obtain ⟨v, vr, rfl, r1, r2⟩ := r
      refine ⟨v, vr, rfl, ρ, env, hd, d, er, sh, r1, ?_⟩
      unfold gtup.go at q
      cases hg : g d env hd with
      | none => rw [hg] at q; exact q
      | some p =>
        obtain ⟨env', hd'⟩ := p
        rw [hg] at q
        intro ρ' H' σ' x s er' hl'
        refine ⟨ρ', env', hd', ds, er', s, RelL.ext x _ _ r2, by simpa using hl, ?_⟩
        dsimp only at q
        cases hr : gtup.go gs ds env' hd' with
        | none => rw [hr] at q; exact q
        | some p2 =>
          rw [hr] at q
          exact fun ρ2 H2 σ2 y s2 e2 l2 => q ρ2 H2 σ2 (x.trans y) s2 e2 ⟨l2.1.trans hl'.1, fun j hj => (l2.2 j fun z => hj (List.mem_append_right _ z)).trans (hl'.2 j fun z => hj (List.mem_append_left _ z))⟩
def noStar2 (es : List Expr) : Bool := es.all notStar
theorem findStar {env : PySem.Env} : ∀ {es : List Expr}, noStars es = true → (assignEach es env).findIdx? (·.1) = none ∧ (assignEach es env).length = es.length
  | [], _ => ⟨rfl, rfl⟩
  | e :: es, h => by
    unfold noStars at h
    rw [Bool.and_eq_true] at h
    obtain ⟨i1, i2⟩ := findStar (env := env) h.2
    have e1 : assignEach (e :: es) env = (false, assign e env) :: assignEach es env := by
      have := h.1
      cases e <;> first | rfl | cases this
    rw [e1]
    refine ⟨?_, by simp [i2]⟩
    rw [List.findIdx?_cons, i1]
    rfl
theorem evg_tup {sl : List Nat} {gs : List MG} {k : Nat} (hK : X.K = C.K) (hc : X.calm = true) (h : PGs X es (tGs C sl gs)) (hs : noStars es = true) (hl : es.length = gs.length) : PG X (.Tuple es k pos) (tG C sl (gtup gs)) :=
  weakG (pg_tup hc h (n := gs.length) (by rw [(findStar hs).2, hl]) (findStar hs).1) fun v σ H Q ⟨ρ, env, hd, d, er, sh, r, q⟩ => by
    unfold gtup at q
    cases d with
    | tup xs =>
      dsimp only at q
      split at q
      · exact q.elim
      · rename_i env' hd' hx
        split at hx
        · rename_i hl2
          obtain ⟨a, vs, rfl, t, rl, z⟩ := tup_of r
          refine ⟨a, vs, rfl, hK ▸ t, by rw [← rl.length]; exact hl2, ρ, env, hd, xs, er, sh, rl, hl2, ?_⟩
          rw [hx]
          exact q
        · cases hx
    | _ => exact q.elim
end
end EV


/-! EvJ: targets with a star, o[i] = v. -/
namespace EV
open PySem PySem.Spec PyProof.Rows L2

/-- a, .., *r = a tuple -/
theorem star_items {prog : Program} {w : World} {A : Around} {E : Value → Shared → Prop} {s : Shared} {t : Addr} {items : Array Value} {k : Nat} {Q : List Value → Shared → Prop}
    (hh : A.handled = none) (ht : IsTup s.heap t items) (hk : k ≤ items.size) (hz : items.size ≤ sizeLine)
    (hQ : ∀ (h' : Heap) (tk : Nat), (∀ b o, s.heap.get? b = some o → h'.get? b = some o) →
      Q (items.toList.take k ++ [.ref h'.objs.size]) { s with heap := h'.push { cls := .type "list", data := .seq (items.toList.drop k).toArray }, toks := tk }) :
    wpAny (model prog w) A (unpackItems (.ref t) (k + 1) (some k)) Q E s := by
  have q0 : t ≠ s.heap.objs.size := by
    obtain ⟨o, e, _⟩ := ht
    exact Nat.ne_of_lt (Heap.lt_size e)
  unfold unpackItems notIterableAtAll
  refine wpAny_bind (wpAny_bind (wpAny_specialOf ht.typeIs slot_tuple_iter.lookup (wpAny_pure ?_)))
  simp only [Bool.false_eq_true, if_false]
  refine wpAny_bind (wpAny_holding (iter_tuple ht (wpAny_bind (wpAny_holding (draw_tuple q0 k 0 _ _ ⟨_, Heap.get?_push_size _ rfl, rfl, rfl⟩ (ht.push _) (by omega) fun g1 it1 sb1 => ?_)))))
  have ht1 : IsTup g1 t items := (ht.push _).extBut sb1.extBut q0
  rw [Nat.zero_add] at it1
  rw [List.drop_zero]
  have hl : (items.toList.take k).length = k := by rw [List.length_take, Array.length_toList]; omega
  rw [if_neg (by rw [hl]; exact Nat.lt_irrefl _)]
  have a1 : s.heap.objs.size < g1.objs.size := by obtain ⟨o, e, _⟩ := it1; exact Heap.lt_size e
  have a2 : t < g1.objs.size := by obtain ⟨o, e, _⟩ := ht1; exact Heap.lt_size e
  have W := Walks.tuple (prog := prog) (w := w) (A := A.in1) hh s.heap.objs.size t q0 items
  refine wpAny_bind (wpAny_holding (PySem.W.kun_collect (s := { s with heap := g1 }) (T := "tuple_iterator") (.inr (.inr (.inr rfl))) W (fun j u st => st.1.typeIs) hk ⟨it1, ht1⟩ a1 a2 (fun g2 tk kp => ?_) hz))
  have e0 : k + 1 - 1 - k = 0 := by omega
  rw [e0, if_neg (Nat.not_lt_zero _)]
  simp only [Nat.sub_zero]
  have a3 : t < g2.objs.size := by
    obtain ⟨o, e, _⟩ := ht1
    exact Heap.lt_size (kp t o q0 e)
  have kept : ∀ b o, s.heap.get? b = some o → g2.get? b = some o := fun b o e => by
    have nb : b ≠ s.heap.objs.size := Nat.ne_of_lt (Heap.lt_size e)
    exact kp b o nb (sb1.extBut b o nb (Heap.get?_push_of_some _ e))
  have hd1 : (items.toList.drop k).take (items.toList.drop k).length = items.toList.drop k := List.take_length
  have hd2 : (items.toList.drop k).drop (items.toList.drop k).length = [] := List.drop_length
  rw [hd1, hd2]
  refine wpAny_bind (wpAny_newList ?_ (by rw [List.length_drop, Array.length_toList]; omega))
  rw [List.append_nil]
  exact wpAny_pure (hQ g2 tk kept)

section
variable {X : Cx} {C : Ctx} {W : WX} {pos cpos apos p2 : Pos} {a b c e o tg t i : Expr} {es rest : List Expr} {ma mb mo mi : M D} {ms : M (List D)} {ta tb : M Bool}
variable {ρ : RhoT} {H : Hp} {hd : Hd} {env : Env} {σ : L2.St}
/-- a, .., *r: what is left over is a new list -/
def gstar (gs : List MG) : MG := fun d env h => match d with
  | .tup xs => if gs.length ≤ xs.length + 1 ∧ 0 < gs.length then gtup.go gs (xs.take (gs.length - 1) ++ [.lst (xs.drop (gs.length - 1))]) env h else none
  | _ => none
theorem assign_stars {env : PySem.Env} {p : Pos} : ∀ {es : List Expr}, noStars (es ++ [t]) = true →
    (assignEach (es ++ [.Starred t p]) env).map (·.2) = (assignEach (es ++ [t]) env).map (·.2) ∧ (assignEach (es ++ [.Starred t p]) env).findIdx? (·.1) = some es.length ∧ (assignEach (es ++ [.Starred t p]) env).length = es.length + 1
  | [], h => by
    have h1 : notStar t = true := by
      have : (notStar t && true) = true := h
      simpa using this
    refine ⟨?_, rfl, rfl⟩
    cases t <;> first | rfl | cases h1
  | e :: es, h => by
    have h' : (notStar e && noStars (es ++ [t])) = true := h
    rw [Bool.and_eq_true] at h'
    obtain ⟨i1, i2, i3⟩ := assign_stars (env := env) (p := p) h'.2
    have f1 : ∀ l : List Expr, assignEach (e :: l) env = (false, assign e env) :: assignEach l env := fun l => by
      have := h'.1
      cases e <;> first | rfl | cases this
    rw [List.cons_append, List.cons_append, f1, f1]
    refine ⟨by rw [List.map_cons, List.map_cons, i1], ?_, by rw [List.length_cons, i3]; rfl⟩
    rw [List.findIdx?_cons, i2]
    rfl
/-- the target's reading, by values -/
def gStarV (K : PySem.W.Frag) (n : Nat) (t : TGs) : TG := fun v σ H Q => ∃ a xs, v = .ref a ∧ SqT K H a xs ∧ n ≤ xs.length ∧ ∀ p, H p = none → t (xs.take n ++ [.ref p]) σ (upd H p (.lst (xs.drop n))) Q
theorem pg_star {k : Nat} {p : Pos} {tt : TGs} (hc : X.calm = true) (h : PGs X (es ++ [t]) tt) (hs : noStars (es ++ [t]) = true) : PG X (.Tuple (es ++ [.Starred t p]) k pos) (gStarV X.K es.length tt) := by
  refine ⟨fun pins s σ H v u Q I r hw => ?_⟩
  obtain ⟨a, xs, rfl, hq, hn, hw⟩ := hw
  cases r
  obtain ⟨its, rv, ht, hz⟩ := I.tuple hq
  obtain ⟨e1, e2, e3⟩ := assign_stars (env := X.env) (p := p) hs
  have hl := rv.length
  rw [assign_Tuple]
  refine wpAny_bind (wpAny_standAt ?_)
  unfold unpack
  rw [e1, e2, e3]
  refine wpAny_bind (wpAny_holding (star_items (I.ok.hd hc) ht (by simp only [List.size_toArray]; omega) (by simp only [List.size_toArray]; omega) fun h' tk kp => ?_))
  have I1 : L2.Inv X pins σ H { s with heap := h', toks := tk } := I.kept (t' := tk) kp
  have hf := I1.hok.fresh (Nat.le_refl h'.objs.size)
  have vd : Vals (xs.drop es.length) (its.drop es.length) := rv.drop _
  have I2 := I1.laid (t' := tk) (a := h'.objs.size) (o := .lst (xs.drop es.length)) (h' := h'.push { cls := .type "list", data := .seq (its.drop es.length).toArray }) (fun b u e => Heap.get?_push_of_some _ e) (Nat.le_refl _)
    ⟨by rw [List.length_drop]; omega, its.drop es.length, 0, vd, Heap.get?_push_size _ rfl⟩
  exact h.run pins _ σ _ _ _ Q I2 ((rv.take _).append (.cons (show RelV (V.ref h'.objs.size) (Value.ref h'.objs.size) from rfl) .nil)) (hw _ hf)
theorem evg_star {sl : List Nat} {gs : List MG} {k : Nat} {p : Pos} (hK : X.K = C.K) (hc : X.calm = true) (h : PGs X (es ++ [t]) (tGs C sl gs)) (hs : noStars (es ++ [t]) = true) (hl : es.length + 1 = gs.length) : PG X (.Tuple (es ++ [.Starred t p]) k pos) (tG C sl (gstar gs)) :=
  weakG (pg_star hc h hs) fun v σ H Q ⟨ρ, env, hd, d, er, sh, r, q⟩ => by
    unfold gstar at q
    cases d with
    | tup xs =>
      dsimp only at q
      split at q
      · exact q.elim
      · rename_i env' hd' hx
        split at hx
        · rename_i hl2
          obtain ⟨a, vs, rfl, f, rl, z⟩ := tup_of r
          have hn : gs.length - 1 = es.length := by omega
          have hlen := rl.length
          rw [hn] at hx
          refine ⟨a, vs, rfl, hK ▸ f, by omega, fun p' hp => ?_⟩
          have x := Ext.upd_new (ρ := ρ) (o := .lst (vs.drop es.length)) hp
          refine ⟨ρ, env, hd, _, er.ext x, sh.upd_new hp, (RelL.ext x _ _ (rl.take _)).append (RelL.cons (rel_lst sh hp (rl.drop _) (by rw [List.length_drop]; omega)) RelL.nil), by simp; omega, ?_⟩
          rw [hx]
          exact fun ρ' H' σ' y s e l => q ρ' H' σ' (x.trans y) s e l
        · cases hx
    | _ => exact q.elim

/-- o[i] = v, a list -/
def gsub (mo mi : M D) : MG := fun d env h => match mo env h with
  | .ok (.ref n) h1 => match mi env h1 with
    | .ok (.int k) h2 => match h2[n]? with
      | some (.lst xs) => if 0 ≤ k ∧ k < xs.length then some (env, h2.set n (.lst (xs.set k.toNat d))) else none
      | _ => none
    | _ => none
  | _ => none
def subOk : Expr → Bool
  | .Slice _ _ _ _ => false
  | _ => true
theorem assign_sub {v : Value} (h : subOk i = true) : assign (.Subscript o i pos) X.env v = (do
      let ov ← holding [v] (eval o X.env)
      let iv ← holding [v, ov] (eval i X.env)
      standAt pos
      holding [v, ov, iv] (setItem ov iv v)
      release [v, ov, iv] []) := by
  cases i <;> first | rfl | cases h
theorem evg_sub (ho : PE X o (tE C W mo)) (hi : PE X i (tE C W mi)) (hs : subOk i = true) : PG X (.Subscript o i pos) (tG C [] (gsub mo mi)) :=
  weakG (pg_sub ho hi set_list fun v => assign_sub hs) fun v σ H Q ⟨ρ, env, hd, d, er, sh, r, q⟩ => by
    unfold gsub at q
    split at q
    · exact q.elim
    · rename_i env' hd' hx
      split at hx
      · rename_i n h1 e1
        split at hx
        · rename_i k h2 e2
          split at hx
          · rename_i xs hn
            split at hx
            · rename_i hk
              cases hx
              refine ⟨ρ, env, hd, er, sh, ?_⟩
              rw [e1]
              intro ρ1 H1 v1 x1 sh1 r1
              refine ⟨ρ1, env, h1, er.ext x1, sh1, ?_⟩
              rw [e2]
              intro ρ2 H2 v2 x2 sh2 r2
              cases of_int r2
              obtain ⟨a, vs, rfl, f, t, rl, z⟩ := ref_lst sh2 (Rel.ext x2 _ _ r1) hn
              have hl := rl.length
              refine ⟨a, vs, k, k.toNat, rfl, rfl, t, by unfold ixN; rw [if_pos hk.1, if_pos (by omega)], ?_⟩
              have x3 := Ext.store (o := .lst (vs.set k.toNat v)) f t
              exact q ρ2 _ σ ((x1.trans x2).trans x3) (sh2.store f t (rl.set (Rel.ext (x1.trans x2) _ _ r) _) (by simpa using z)) (er.ext ((x1.trans x2).trans x3)) ⟨rfl, fun _ _ => rfl⟩
            · cases hx
          · cases hx
        · cases hx
      · cases hx
end
end EV


/-! EvK: list comprehensions. -/
namespace EV
open PySem PySem.Spec PyProof.Rows L2

def wipeE (env : Env) : List Nat → Env
  | [] => env
  | v :: vs => (wipeE env vs).set v none
def compLoop (g : MG) (cond : M Bool) (elt : M D) (env0 : Env) : List D → List D → Hd → Option (List D × Hd)
  | [], acc, h => some (acc, h)
  | x :: xs, acc, h => match g x env0 h with
    | none => none
    | some (env1, h1) => match cond env1 h1 with
      | .ok true h2 => match elt env1 h2 with
        | .ok y h3 => compLoop g cond elt env0 xs (acc ++ [y]) h3
        | _ => none
      | .ok false h2 => compLoop g cond elt env0 xs acc h2
      | _ => none
def mcomp (m : Bool) (own : List Nat) (it : MI) (g : MG) (cond : M Bool) (elt : M D) : M D := fun env h => (it env h).bind fun items h1 =>
  match compLoop g cond elt (wipeE env own) items [] h1 with
  | some (acc, h2) => fin m (some (.new acc)) h2
  | none => .bad
def yes : M Bool := fun _ h => .ok true h

abbrev W0 : WX := fun _ _ _ _ => False
section
variable {X : Cx} {C : Ctx} {W : WX} {pos cpos apos p2 : Pos} {a b c e o tg t i elt iter : Expr} {es rest ifs : List Expr} {ma mb mo mi : M D} {ms : M (List D)} {ta tb : M Bool}
variable {ρ ρ' ρ'' : RhoT} {H H' H'' : Hp} {hd : Hd} {env : Env} {σ : L2.St}
theorem EnvRel.wipe (h : EnvRel C ρ H env σ) : ∀ vs : List Nat, EnvRel C ρ H (wipeE env vs) (wipe σ vs)
  | [] => h
  | v :: vs => (EnvRel.wipe h vs).forget v
theorem wipe_same {σ σ' : L2.St} {vs sl : List Nat} (hsub : ∀ j ∈ sl, j ∈ vs) (hl : σ'.length = (wipe σ vs).length) (h : ∀ j : Nat, j ∉ sl → σ'[j]? = (wipe σ vs)[j]?) : wipe σ' vs = wipe σ vs := by
  have get : ∀ (σ : L2.St) (vs : List Nat) (j : Nat), (L2.wipe σ vs)[j]? = if j ∈ vs ∧ j < σ.length then some none else σ[j]? := by
    intro σ vs
    induction vs with
    | nil => intro j; simp [L2.wipe]
    | cons v vs ih =>
      intro j
      unfold L2.wipe
      by_cases hv : v = j
      · subst hv
        by_cases hj : v < σ.length
        · rw [List.getElem?_set_self (by rw [wipe_length]; exact hj), if_pos ⟨List.mem_cons_self, hj⟩]
        · rw [List.getElem?_eq_none (by rw [List.length_set, wipe_length]; omega), if_neg (fun z => hj z.2), List.getElem?_eq_none (by omega)]
      · rw [List.getElem?_set_ne hv, ih j]
        have : j ∈ v :: vs ↔ j ∈ vs := by simp [Ne.symm hv]
        simp only [this]
  rw [wipe_length] at hl
  apply List.ext_getElem?
  intro j
  rw [get σ' vs j, get σ vs j, hl]
  by_cases hj : j ∈ vs ∧ j < σ.length
  · rw [if_pos hj, if_pos hj]
  · rw [if_neg hj, if_neg hj]
    by_cases hs : j ∈ sl
    · have : ¬ j < σ.length := fun z => hj ⟨hsub j hs, z⟩
      rw [List.getElem?_eq_none (by omega), List.getElem?_eq_none (by omega)]
    · rw [h j hs, get σ vs j, if_neg hj]

theorem Ext.keepsHide {p : Addr} (x : Ext ρ ρ' H H') (hp : H p = none) : Keeps ρ (ρ'.hide p) H H' :=
  ⟨fun a o h f => ⟨x.keep a o h f.1, (show Unr ρ' a from f.1.ext x h), fun z => by
    rcases List.mem_cons.mp z with z | z
    · exact ne_of_none h hp z
    · rw [x.hid] at z; exact f.2 z⟩, x.old⟩
theorem Ext.unhide {p : Addr} {ρ5 : Rho} (x : Ext (ρ'.hide p) ρ5 H' H'') : Ext ρ' ⟨ρ5.r, ρ'.hid⟩ H' H'' := ⟨x.le, x.old, x.new, x.keep, x.dom, rfl⟩
theorem Ext.grow {p : Addr} {o : HO} (x : Ext ρ ρ' H H') (hp : H p = none) : Ext ρ ρ' H (upd H' p o) where
  le := x.le
  old := x.old
  new := x.new
  keep := fun a u e f => by rw [upd_ne (ne_of_none e hp)]; exact x.keep a u e f
  dom := fun a e => by
    by_cases q : a = p
    · rw [q]; exact hp
    · rw [upd_ne q] at e; exact x.dom a e
  hid := x.hid

/-- the state of a comprehension: the list so far stands at p, out of sight -/
structure CompSt (C : Ctx) (ρ1 : RhoT) (H1 : Hp) (p : Addr) (ρ' : RhoT) (H' : Hp) (hd' : Hd) (acc : List D) : Prop where
  ext : Ext ρ1 ρ' H1 H'
  sim : SimH C (ρ'.hide p) H' hd'
  lst : ∃ vs, H' p = some (.lst vs) ∧ RelL C (ρ'.hide p) H' acc vs
theorem comp_ok {own : List (Str × Nat)} {m : Bool} {sl : List Nat} {g : MG} {mi : MI} {tt : TT} {cond : M Bool} {me : M D}
    (hc : X.calm = true) (hN : X.N.Nodup) (hsl : ∀ j ∈ sl, j ∈ own.map (·.2))
    (ht : ∀ σ H Q, tT C W0 cond σ H Q → tt σ H Q) {Q : VK} (h : tE C W (mcomp m (own.map (·.2)) mi g cond me) σ H Q) : tLc (tI C W mi) (tG C sl g) tt (tE C W0 me) (own.map (·.2)) σ H Q := by
  obtain ⟨ρ, env, hd, er, sh, p⟩ := h
  refine ⟨ρ, env, hd, er, sh, (PostX.bind (R1 := IRel C) p).imp (fun J H1 ⟨ρ1, hd1, items, x1, s1, ir, q⟩ => ?_) fun _ _ _ z => z⟩
  have er1 := er.ext x1
  intro D hD
  cases hcl : compLoop g cond me (wipeE env (own.map (·.2))) items [] hd1 with
  | none => rw [hcl] at q; exact q.elim
  | some r =>
    obtain ⟨accF, hF⟩ := r
    rw [hcl] at q
    have hDh : D ∉ ρ1.hid := fun z => s1.hidS D z hD
    refine ⟨fun i k H' => k = items.length - i ∧ i ≤ items.length ∧ ∃ ρ' hd' acc, CompSt C ρ1 H1 D ρ' H' hd' acc ∧ acc.length ≤ i ∧ compLoop g cond me (wipeE env (own.map (·.2))) (items.drop i) acc hd' = some (accF, hF),
      ⟨_, rfl, Nat.zero_le _, ρ1, hd1, [], ⟨Ext.upd_new hD, s1.hide hD, [], upd_same, RelL.nil⟩, Nat.le_refl _, hcl⟩, ?_⟩
    rintro i k H' ⟨rfl, hi, ρ', hd', acc, st, hacc, hloop⟩
    have kp : Keeps ρ1 (ρ'.hide D) H1 H' := st.ext.keepsHide hD
    by_cases hlt : i < items.length
    · refine .inr ⟨ir.go _ H' i kp hlt, fun H' => ∃ ρ' hd' acc, CompSt C ρ1 H1 D ρ' H' hd' acc ∧ acc.length ≤ i + 1 ∧ compLoop g cond me (wipeE env (own.map (·.2))) (items.drop (i + 1)) acc hd' = some (accF, hF),
        fun H2 ⟨ρ2, hd2, acc2, s2, l2, c2⟩ => ⟨items.length - (i + 1), by omega, rfl, hlt, ρ2, hd2, acc2, s2, l2, c2⟩, fun x H2 hy => ?_⟩
      obtain ⟨y1, y2, y3⟩ := ir.yld _ H' i x H2 hd' (items[i]) kp st.sim (List.getElem?_eq_getElem hlt) hy
      have er2 : EnvRel C (ρ'.hide D) H2 (wipeE env (own.map (·.2))) (wipe σ (own.map (·.2))) := ((er1.keeps kp).ext y1).wipe _
      have hdr : items.drop i = items[i] :: items.drop (i + 1) := List.drop_eq_getElem_cons hlt
      rw [hdr] at hloop
      unfold compLoop at hloop
      cases hg : g items[i] (wipeE env (own.map (·.2))) hd' with
      | none => rw [hg] at hloop; cases hloop
      | some r1 =>
        obtain ⟨env1, h1⟩ := r1
        rw [hg] at hloop
        refine ⟨ρ'.hide D, wipeE env (own.map (·.2)), hd', items[i], er2, y2, y3, ?_⟩
        rw [hg]
        intro ρ3 H3 σ3 x3 s3 er3 hsl3
        refine ⟨wipe_same hsl hsl3.1 hsl3.2, ht σ3 H3 _ ⟨ρ3, env1, h1, er3, s3, ?_⟩⟩
        dsimp only at hloop
        -- the new state behind a turn
        have next : ∀ {ρ5 : RhoT} {H5 : Hp}, Ext (ρ'.hide D) ρ5 H2 H5 → ∃ ρ6 : RhoT, ρ5 = ρ6.hide D ∧ Ext ρ1 ρ6 H1 H5 ∧ ∀ vs, H' D = some (.lst vs) → H5 D = some (.lst vs) ∧ Keeps (ρ'.hide D) ρ5 H' H5 := by
          intro ρ5 H5 x5
          have xa := y1.trans x5
          refine ⟨⟨ρ5.r, ρ'.hid⟩, ?_, st.ext.trans xa.unhide, fun vs e => ⟨xa.keep D _ e (fun n z => st.sim.apart n D z List.mem_cons_self), xa.keeps⟩⟩
          have := xa.hid
          cases ρ5
          simp only at this
          rw [this]
        cases hcd : cond env1 h1 with
        | bad => rw [hcd] at hloop; cases hloop
        | exc _ _ => rw [hcd] at hloop; cases hloop
        | ok b h2 =>
          rw [hcd] at hloop
          intro ρ4 H4 b' x4 s4 eb
          subst eb
          cases b' with
          | false =>
            rw [if_neg Bool.false_ne_true]
            obtain ⟨ρ6, rfl, xe, nx⟩ := next (x3.trans x4)
            obtain ⟨vs, hv, rv⟩ := st.lst
            obtain ⟨e5, kp5⟩ := nx vs hv
            exact ⟨ρ6, h2, acc, ⟨xe, s4, vs, e5, RelL.keeps kp5 _ _ rv⟩, by omega, hloop⟩
          | true =>
            rw [if_pos rfl]
            dsimp only at hloop
            refine ⟨ρ4, env1, h2, er3.ext x4, s4, ?_⟩
            cases hel : me env1 h2 with
            | bad => rw [hel] at hloop; cases hloop
            | exc _ _ => rw [hel] at hloop; cases hloop
            | ok y h3 =>
              rw [hel] at hloop
              intro ρ5 H5 v x5 s5 r5
              obtain ⟨ρ6, rfl, xe, nx⟩ := next ((x3.trans x4).trans x5)
              obtain ⟨vs, hv, rv⟩ := st.lst
              obtain ⟨e5, kp5⟩ := nx vs hv
              have lv := rv.length
              refine ⟨vs, e5, by have := ir.len; omega, ρ6, h3, acc ++ [y], ⟨xe.grow hD, s5.grow, vs ++ [v], upd_same, RelL.keeps Keeps.grow _ _ ((RelL.keeps kp5 _ _ rv).append (RelL.cons r5 RelL.nil))⟩, by simp; omega, hloop⟩
    · have hie : i = items.length := by omega
      subst hie
      rw [List.drop_length] at hloop
      unfold compLoop at hloop
      cases hloop
      obtain ⟨vs, hv, rv⟩ := st.lst
      refine .inl ⟨ir.stop _ H' kp, ?_⟩
      have hur : Unr ρ' D := fun n z => st.sim.apart n D z List.mem_cons_self
      have hnh : D ∉ ρ'.hid := by rw [st.ext.hid]; exact hDh
      have hz : accF.length ≤ sizeLine := Nat.le_trans hacc ir.len
      cases m with
      | true =>
        refine q (ρ'.push D) H' _ ?_ (st.sim.show_ hnh hur hv rv hz) (rel_new st.sim.unhide)
        exact ⟨by have := st.ext.le; simp; omega, fun n hn => by
          have hn' : n < ρ'.r.length := Nat.lt_of_lt_of_le hn st.ext.le
          rcases st.ext.old n hn with z | z
          · exact .inl (by rw [← z]; exact List.getElem?_append_left hn')
          · exact .inr (by rw [← z]; exact List.getElem?_append_left hn'), fun n a hn e => by
          rcases get_snoc e with z | ⟨_, z⟩
          · exact st.ext.new n a hn z
          · cases z; exact hD, st.ext.keep, st.ext.dom, st.ext.hid⟩
      | false =>
        refine q ρ' H' _ st.ext st.sim.unhide ?_
        simp only [Rel]
        exact ⟨D, vs, rfl, ⟨hv, hur, hnh⟩, RelL.keeps Keeps.unhide _ _ rv, hz⟩
theorem ev_comp {scope : Scope} {own : List (Str × Nat)} {m : Bool} {sl : List Nat} {g : MG} {mi : MI} {tt : TT} {cond : M Bool} {me : M D} (hc : X.calm = true) (hN : X.N.Nodup) (hsl : ∀ j ∈ sl, j ∈ own.map (·.2))
    (hi : PI X tg iter (tI C W mi)) (ok : BlkOk X.N X.env.scope scope own)
    (hg : ∀ (s : Shared) (H : Hp) (Cc : Addr) (cl : List (Str × Addr)) (fp : List Addr), PG (X.blk s H scope (compEnvC scope cl Cc X.env) fp) tg (tG C sl g))
    (hts : ∀ (s : Shared) (H : Hp) (Cc : Addr) (cl : List (Str × Addr)) (fp : List Addr), PTs (X.blk s H scope (compEnvC scope cl Cc X.env) fp) ifs tt) (ht : ∀ σ H Q, tT C W0 cond σ H Q → tt σ H Q)
    (he : ∀ (s : Shared) (H : Hp) (Cc : Addr) (cl : List (Str × Addr)) (fp : List Addr), PE (X.blk s H scope (compEnvC scope cl Cc X.env) fp) elt (tE C W0 me)) (hs : ∀ x, foldedSetIterable iter X.env x = pure x) :
    PE X (.ListComp elt [⟨tg, iter, ifs, 0⟩] scope pos) (tE C W (mcomp m (own.map (·.2)) mi g cond me)) :=
  weakE (pe_lc hc hN hi ok hg hts he hs) fun σ H Q h => comp_ok hc hN hsl ht h
end
end EV


/-! EvL: statements. -/
namespace EV
open PySem PySem.Spec PyProof.Rows L2

inductive Fl where
  | nx | bk | ct
  | ret (d : D)
  | exc (x : Exn)
abbrev SR := Option (Fl × Env × Hd)
abbrev MS := Env → Hd → SR
def EndOk (C : Ctx) (W : WX) (Z : Ends) (ρ' : RhoT) (H' : Hp) (σ' : L2.St) : Fl → Prop
  | .nx => Z.nx σ' H'
  | .bk => Z.bk σ' H'
  | .ct => Z.ct σ' H'
  | .ret d => ∀ v, Rel C ρ' H' d v → Z.rt v H'
  | .exc x => ∀ dd, XRel C ρ' H' x dd → W (.ref (C.ca x.cls)) dd σ' H'
def PostS (C : Ctx) (ρ : RhoT) (H : Hp) (W : WX) (Z : Ends) (n : Nat) : SR → Prop
  | none => False
  | some (fl, env', hd') => ∀ ρ' H' σ', Ext ρ ρ' H H' → SimH C ρ' H' hd' → EnvRel C ρ' H' env' σ' → σ'.length = n → EndOk C W Z ρ' H' σ' fl
def tS (C : Ctx) (W : WX) (m : MS) : TS := fun Z σ H => ∃ ρ env hd, EnvRel C ρ H env σ ∧ SimH C ρ H hd ∧ PostS C ρ H W Z σ.length (m env hd)

def ofE (m : M D) (k : D → MS) : MS := fun env h => match m env h with
  | .ok d h1 => k d env h1
  | .exc x h1 => some (.exc x, env, h1)
  | .bad => none
def ofT (m : M Bool) (k : Bool → MS) : MS := fun env h => match m env h with
  | .ok d h1 => k d env h1
  | .exc x h1 => some (.exc x, env, h1)
  | .bad => none
def sPass : MS := fun env h => some (.nx, env, h)
def sBrk : MS := fun env h => some (.bk, env, h)
def sCnt : MS := fun env h => some (.ct, env, h)
def sExpr (m : M D) : MS := ofE m fun _ env h => some (.nx, env, h)
def sRet (m : M D) : MS := ofE m fun d env h => some (.ret d, env, h)
def sRetN : MS := fun env h => some (.ret .non, env, h)
def sAsg (m : M D) (g : MG) : MS := ofE m fun d env h => match g d env h with
  | some (env', h') => some (.nx, env', h')
  | none => none
def sIf (c : M Bool) (a b : MS) : MS := ofT c fun k env h => if k then a env h else b env h
def sSeq (a b : MS) : MS := fun env h => match a env h with
  | some (.nx, env', h') => b env' h'
  | r => r
def forLoop (g : MG) (body : MS) : List D → MS
  | [], env, h => some (.nx, env, h)
  | x :: xs, env, h => match g x env h with
    | none => none
    | some (env1, h1) => match body env1 h1 with
      | some (.nx, e2, h2) => forLoop g body xs e2 h2
      | some (.ct, e2, h2) => forLoop g body xs e2 h2
      | some (.bk, e2, h2) => some (.nx, e2, h2)
      | r => r
def sFor (it : MI) (g : MG) (body : MS) : MS := fun env h => match it env h with
  | .ok items h1 => forLoop g body items env h1
  | .exc x h1 => some (.exc x, env, h1)
  | .bad => none
def sWhile (c : M Bool) (body : MS) : Nat → MS
  | 0 => fun _ _ => none
  | n + 1 => ofT c fun k env h => if k then
      (match body env h with
      | some (.nx, e2, h2) => sWhile c body n e2 h2
      | some (.ct, e2, h2) => sWhile c body n e2 h2
      | some (.bk, e2, h2) => some (.nx, e2, h2)
      | r => r)
    else some (.nx, env, h)

section
variable {X : Cx} {C : Ctx} {W : WX} {pos cpos apos p2 : Pos} {a b c e o tg t i elt iter : Expr} {es rest ifs : List Expr} {ma mb mo : M D} {mi : MI} {ms : M (List D)} {ta tb : M Bool} {st : Stmt} {sts body : List Stmt} {sa sb : MS}
variable {ρ ρ' ρ'' : RhoT} {H H' H'' : Hp} {hd : Hd} {env : Env} {σ : L2.St} {Z : Ends}

theorem PostS.ext {n : Nat} {r : SR} (x : Ext ρ ρ' H H') (p : PostS C ρ H W Z n r) : PostS C ρ' H' W Z n r := by
  cases r with
  | none => exact p
  | some q => obtain ⟨fl, env', hd'⟩ := q; exact fun ρ2 H2 σ2 y => p ρ2 H2 σ2 (x.trans y)
theorem PostS.here {fl : Fl} (p : PostS C ρ H W Z σ.length (some (fl, env, hd))) (sh : SimH C ρ H hd) (er : EnvRel C ρ H env σ) : EndOk C W Z ρ H σ fl := p ρ H σ Ext.refl sh er rfl
theorem goE {k : D → MS} (er : EnvRel C ρ H env σ) (sh : SimH C ρ H hd) (p : PostS C ρ H W Z σ.length (ofE ma k env hd)) {Q' : VK}
    (go : ∀ v H1 ρ1 hd1 d, Ext ρ ρ1 H H1 → EnvRel C ρ1 H1 env σ → SimH C ρ1 H1 hd1 → Rel C ρ1 H1 d v → PostS C ρ1 H1 W Z σ.length (k d env hd1) → Q' v H1) : tE C W ma σ H Q' := by
  refine ⟨ρ, env, hd, er, sh, ?_⟩
  unfold ofE at p
  cases hm : ma env hd with
  | bad => rw [hm] at p; exact p.elim
  | ok d h => rw [hm] at p; exact fun ρ1 H1 v x s r => go v H1 ρ1 h d x (er.ext x) s r (p.ext x)
  | exc x h => rw [hm] at p; exact fun ρ1 H1 dd y s r => p ρ1 H1 σ y s (er.ext y) rfl dd r
theorem goT {k : Bool → MS} (er : EnvRel C ρ H env σ) (sh : SimH C ρ H hd) (p : PostS C ρ H W Z σ.length (ofT ta k env hd)) {Q' : Bool → Hp → Prop}
    (go : ∀ b H1 ρ1 hd1, Ext ρ ρ1 H H1 → EnvRel C ρ1 H1 env σ → SimH C ρ1 H1 hd1 → PostS C ρ1 H1 W Z σ.length (k b env hd1) → Q' b H1) : tT C W ta σ H Q' := by
  refine ⟨ρ, env, hd, er, sh, ?_⟩
  unfold ofT at p
  cases hm : ta env hd with
  | bad => rw [hm] at p; exact p.elim
  | ok d h => rw [hm] at p; exact fun ρ1 H1 v x s r => by subst r; exact go v H1 ρ1 h x (er.ext x) s (p.ext x)
  | exc x h => rw [hm] at p; exact fun ρ1 H1 dd y s r => p ρ1 H1 σ y s (er.ext y) rfl dd r
theorem weakS {t t' : TS} (h : PS X st t) (w : ∀ Z σ H, t' Z σ H → t Z σ H) : PS X st t' := ⟨fun pins s σ H Z I q => h.run pins s σ H Z I (w Z σ H q)⟩
theorem weakSs {t t' : TS} (h : PSs X sts t) (w : ∀ Z σ H, t' Z σ H → t Z σ H) : PSs X sts t' := ⟨fun pins s σ H Z I q => h.run pins s σ H Z I (w Z σ H q)⟩

theorem evs_pass {pos : Pos} : PS X (.Pass pos) (tS C W sPass) := weakS ps_pass fun Z σ H ⟨ρ, env, hd, er, sh, p⟩ => p.here sh er
theorem evs_brk {pos : Pos} : PS X (.Break pos) (tS C W sBrk) := weakS ps_break fun Z σ H ⟨ρ, env, hd, er, sh, p⟩ => p.here sh er
theorem evs_cnt {pos : Pos} : PS X (.Continue pos) (tS C W sCnt) := weakS ps_continue fun Z σ H ⟨ρ, env, hd, er, sh, p⟩ => p.here sh er
def isComp : Expr → Bool
  | .ListComp _ _ _ _ => true
  | .SetComp _ _ _ _ => true
  | .DictComp _ _ _ _ _ => true
  | _ => false
theorem swaps_no {t : Option Expr} {l : Nat} {env : PySem.Env} (h : isComp e = false) : swapsWith e t l env = pure false := by
  cases e <;> first | rfl | cases h
theorem evs_expr (he : PE X e (tE C W ma)) (hs : isComp e = false) : PS X (.Expr e pos) (tS C W (sExpr ma)) :=
  weakS (ps_expr he (swaps_no hs)) fun Z σ H ⟨ρ, env, hd, er, sh, p⟩ => goE er sh p fun v H1 ρ1 hd1 d x er1 sh1 r1 p1 => PostS.here p1 sh1 er1
theorem evs_ret (he : PE X e (tE C W ma)) : PS X (.Return (some e) pos) (tS C W (sRet ma)) :=
  weakS (ps_ret he) fun Z σ H ⟨ρ, env, hd, er, sh, p⟩ => goE er sh p fun v H1 ρ1 hd1 d x er1 sh1 r1 p1 => (p1.here sh1 er1) v r1
theorem evs_retN : PS X (.Return none pos) (tS C W sRetN) :=
  weakS ps_retN fun Z σ H ⟨ρ, env, hd, er, sh, p⟩ => (p.here sh er) .non rel_non
theorem go_asg {sl : List Nat} {g : MG} (er : EnvRel C ρ H env σ) (sh : SimH C ρ H hd) (p : PostS C ρ H W Z σ.length (sAsg ma g env hd)) : tAsg (tE C W ma) (tG C sl g) Z σ H :=
  goE er sh p fun v H1 ρ1 hd1 d x er1 sh1 r1 p1 => by
    refine ⟨ρ1, env, hd1, d, er1, sh1, r1, ?_⟩
    split at p1
    · rename_i env' h' e
      rw [e]
      exact fun ρ2 H2 σ2 y s2 e2 l2 => p1 ρ2 H2 σ2 y s2 e2 l2.1
    · exact p1.elim
def plainAsg (tg e : Expr) : Bool := !isComp e && notStar tg && (match tg, e with
  | .Tuple _ _ _, .Tuple _ _ _ => false
  | .List _ _, .Tuple _ _ _ => false
  | _, _ => true)
theorem evs_asg {sl : List Nat} {g : MG} (he : PE X e (tE C W ma)) (hg : PG X tg (tG C sl g)) (hp : plainAsg tg e = true) : PS X (.Assign [tg] e pos) (tS C W (sAsg ma g)) := by
  unfold plainAsg at hp
  simp only [Bool.and_eq_true, Bool.not_eq_true'] at hp
  obtain ⟨⟨h1, h2⟩, h3⟩ := hp
  refine weakS (ps_asg he hg (swaps_no h1) ?_ (assign_at h2)) fun Z σ H ⟨ρ, env, hd, er, sh, p⟩ => go_asg er sh p
  cases tg <;> cases e <;> first | rfl | cases h3
theorem evs_if (hc : PT X c (tT C W ta)) (ha : PSs X sts (tS C W sa)) (hb : PSs X body (tS C W sb)) : PS X (.If c sts body pos) (tS C W (sIf ta sa sb)) :=
  weakS (ps_if hc ha hb) fun Z σ H ⟨ρ, env, hd, er, sh, p⟩ => goT er sh p fun k H1 ρ1 hd1 x er1 sh1 p1 => by
    cases k with
    | true => exact ⟨ρ1, env, hd1, er1, sh1, p1⟩
    | false => exact ⟨ρ1, env, hd1, er1, sh1, p1⟩
theorem evss_nil : PSs X [] (tS C W sPass) := weakSs pss_nil fun Z σ H ⟨ρ, env, hd, er, sh, p⟩ => p.here sh er
theorem evss_one (h : PS X st (tS C W sa)) : PSs X [st] (tS C W sa) := pss_one h
theorem evss_cons (h : PS X st (tS C W sa)) (hr : PSs X sts (tS C W sb)) : PSs X (st :: sts) (tS C W (sSeq sa sb)) :=
  weakSs (pss_cons h hr) fun Z σ H ⟨ρ, env, hd, er, sh, p⟩ => by
    refine ⟨ρ, env, hd, er, sh, ?_⟩
    unfold sSeq at p
    cases hm : sa env hd with
    | none => rw [hm] at p; exact p
    | some q =>
      obtain ⟨fl, env', hd'⟩ := q
      rw [hm] at p
      cases fl with
      | nx => exact fun ρ2 H2 σ2 x s e l => ⟨ρ2, env', hd', e, s, by rw [l]; exact p.ext x⟩
      | bk => exact p
      | ct => exact p
      | ret d => exact p
      | exc x => exact p
theorem evs_for {sl : List Nat} {g : MG} {pos : Pos} (hp : PassesOwn (model X.prog X.w) X.A X.env X.xe) (hc : X.calm = true) (hi : PI X tg iter (tI C W mi)) (hg : PG X tg (tG C sl g)) (hb : PSs X body (tS C W sa)) (hs : ∀ x, foldedSetIterable iter X.env x = pure x) :
    PS X (.For tg iter body [] pos) (tS C W (sFor mi g sa)) :=
  weakS (ps_for hp hc hi hg hb hs) fun Z σ H ⟨ρ, env, hd, er, sh, p⟩ => by
    refine ⟨ρ, env, hd, er, sh, ?_⟩
    unfold sFor at p
    cases hm : mi env hd with
    | bad => rw [hm] at p; exact p.elim
    | exc x h => rw [hm] at p; exact fun ρ1 H1 dd y s r => p ρ1 H1 σ y s (er.ext y) rfl dd r
    | ok items h0 =>
      rw [hm] at p
      intro ρ1 H1 J x1 s1 ir
      refine ⟨fun i k σ' H' => k = items.length - i ∧ i ≤ items.length ∧ σ'.length = σ.length ∧ ∃ ρ' env' hd', Ext ρ1 ρ' H1 H' ∧ EnvRel C ρ' H' env' σ' ∧ SimH C ρ' H' hd' ∧ PostS C ρ' H' W Z σ.length (forLoop g sa (items.drop i) env' hd'),
        ⟨_, rfl, Nat.zero_le _, rfl, ρ1, env, h0, Ext.refl, er.ext x1, s1, p.ext x1⟩, ?_⟩
      rintro i k σ' H' ⟨rfl, hi', hl', ρ', env', hd', x', er', sh', p'⟩
      by_cases hlt : i < items.length
      · refine .inr ⟨ir.go ρ' H' i x'.keeps hlt, fun σ2 H2 => σ2.length = σ.length ∧ ∃ ρ2 env2 hd2, Ext ρ1 ρ2 H1 H2 ∧ EnvRel C ρ2 H2 env2 σ2 ∧ SimH C ρ2 H2 hd2 ∧ PostS C ρ2 H2 W Z σ.length (forLoop g sa (items.drop (i + 1)) env2 hd2),
          fun σ2 H2 ⟨l2, ρ2, env2, hd2, y1, y2, y3, y4⟩ => ⟨items.length - (i + 1), by omega, rfl, hlt, l2, ρ2, env2, hd2, y1, y2, y3, y4⟩, fun x H2 hy => ?_⟩
        obtain ⟨y1, y2, y3⟩ := ir.yld ρ' H' i x H2 hd' items[i] x'.keeps sh' (List.getElem?_eq_getElem hlt) hy
        rw [List.drop_eq_getElem_cons hlt] at p'
        unfold forLoop at p'
        refine ⟨ρ', env', hd', items[i], er'.ext y1, y2, y3, ?_⟩
        cases hg1 : g items[i] env' hd' with
        | none => rw [hg1] at p'; exact p'
        | some q1 =>
          obtain ⟨env1, h1⟩ := q1
          rw [hg1] at p'
          intro ρ3 H3 σ3 x3 s3 e3 l3
          refine ⟨ρ3, env1, h1, e3, s3, ?_⟩
          dsimp only at p'
          have p3 := p'.ext (y1.trans x3)
          have l3' : σ3.length = σ.length := l3.1.trans hl'
          cases hb1 : sa env1 h1 with
          | none => rw [hb1] at p3; exact p3.elim
          | some q2 =>
            obtain ⟨fl, e2, h2⟩ := q2
            rw [hb1] at p3
            have xx := x'.trans (y1.trans x3)
            cases fl with
            | nx => exact fun ρ4 H4 σ4 x4 s4 e4 l4 => ⟨l4.trans l3', ρ4, e2, h2, xx.trans x4, e4, s4, p3.ext x4⟩
            | ct => exact fun ρ4 H4 σ4 x4 s4 e4 l4 => ⟨l4.trans l3', ρ4, e2, h2, xx.trans x4, e4, s4, p3.ext x4⟩
            | bk => exact fun ρ4 H4 σ4 x4 s4 e4 l4 => p3 ρ4 H4 σ4 x4 s4 e4 (l4.trans l3')
            | ret d => exact fun ρ4 H4 σ4 x4 s4 e4 l4 => p3 ρ4 H4 σ4 x4 s4 e4 (l4.trans l3')
            | exc x => exact fun ρ4 H4 σ4 x4 s4 e4 l4 => p3 ρ4 H4 σ4 x4 s4 e4 (l4.trans l3')
      · have hie : i = items.length := by omega
        subst hie
        rw [List.drop_length] at p'
        exact .inl ⟨ir.stop ρ' H' x'.keeps, p' ρ' H' σ' Ext.refl sh' er' hl'⟩
theorem evs_while {pos : Pos} {n : Nat} (hp : PassesOwn (model X.prog X.w) X.A X.env X.xe) (hc : PT X c (tT C W ta)) (hb : PSs X body (tS C W sa)) : PS X (.While c body [] pos) (tS C W (sWhile ta sa n)) :=
  weakS (ps_while hp hc hb) fun Z σ H ⟨ρ, env, hd, er, sh, p⟩ => by
    refine ⟨fun m σ' H' => σ'.length = σ.length ∧ ∃ ρ' env' hd', EnvRel C ρ' H' env' σ' ∧ SimH C ρ' H' hd' ∧ PostS C ρ' H' W Z σ.length (sWhile ta sa m env' hd'), ⟨n, rfl, ρ, env, hd, er, sh, p⟩, ?_⟩
    rintro m σ' H' ⟨hl', ρ', env', hd', er', sh', p'⟩
    cases m with
    | zero => exact p'.elim
    | succ m =>
      unfold sWhile at p'
      rw [← hl'] at p'
      refine goT er' sh' p' fun k H1 ρ1 hd1 x er1 sh1 p1 => ?_
      cases k with
      | false =>
        rw [if_neg Bool.false_ne_true]
        exact p1 ρ1 H1 σ' Ext.refl sh1 er1 rfl
      | true =>
        rw [if_pos rfl]
        refine ⟨fun σ2 H2 => σ2.length = σ.length ∧ ∃ ρ2 env2 hd2, EnvRel C ρ2 H2 env2 σ2 ∧ SimH C ρ2 H2 hd2 ∧ PostS C ρ2 H2 W Z σ.length (sWhile ta sa m env2 hd2), fun σ2 H2 h2 => ⟨m, Nat.lt_succ_self m, h2⟩, ρ1, env', hd1, er1, sh1, ?_⟩
        rw [if_pos rfl] at p1
        cases hb1 : sa env' hd1 with
        | none => rw [hb1] at p1; exact p1.elim
        | some q2 =>
          obtain ⟨fl, e2, h2⟩ := q2
          rw [hb1] at p1
          cases fl with
          | nx => exact fun ρ4 H4 σ4 x4 s4 e4 l4 => ⟨l4.trans hl', ρ4, e2, h2, e4, s4, by rw [← hl']; exact p1.ext x4⟩
          | ct => exact fun ρ4 H4 σ4 x4 s4 e4 l4 => ⟨l4.trans hl', ρ4, e2, h2, e4, s4, by rw [← hl']; exact p1.ext x4⟩
          | bk => exact p1
          | ret d => exact p1
          | exc x => exact p1
/-- y = [..], y a local name on the comprehension's line -/
theorem evs_setC {scope : Scope} {own : List (Str × Nat)} {m : Bool} {sl : List Nat} {g : MG} {mi : MI} {tt : TT} {cond : M Bool} {me : M D} {i : Nat} {y : Str} {py spos : Pos} (hc : X.calm = true) (hN : X.N.Nodup) (hsl : ∀ j ∈ sl, j ∈ own.map (·.2))
    (hy : X.N[i]? = some y) (hyl : X.env.scope.names.lookup y = some .local) (hsw : swapsWith (.ListComp elt [⟨tg, iter, ifs, 0⟩] scope pos) (some (.Name y py)) spos.line X.env = pure true)
    (hi : PI X tg iter (tI C W mi)) (ok : BlkOk X.N X.env.scope scope own)
    (hg : ∀ (s : Shared) (H : Hp) (Cc : Addr) (cl : List (Str × Addr)) (fp : List Addr), PG (X.blk s H scope (compEnvC scope cl Cc X.env) fp) tg (tG C sl g))
    (hts : ∀ (s : Shared) (H : Hp) (Cc : Addr) (cl : List (Str × Addr)) (fp : List Addr), PTs (X.blk s H scope (compEnvC scope cl Cc X.env) fp) ifs tt) (ht : ∀ σ H Q, tT C W0 cond σ H Q → tt σ H Q)
    (he : ∀ (s : Shared) (H : Hp) (Cc : Addr) (cl : List (Str × Addr)) (fp : List Addr), PE (X.blk s H scope (compEnvC scope cl Cc X.env) fp) elt (tE C W0 me)) (hs : ∀ x, foldedSetIterable iter X.env x = pure x) :
    PS X (.Assign [.Name y py] (.ListComp elt [⟨tg, iter, ifs, 0⟩] scope pos) spos) (tS C W (sAsg (mcomp m (own.map (·.2)) mi g cond me) (gname i))) :=
  weakS (ps_setLc hc hN hy hyl hsw hi ok hg hts he hs) fun Z σ H ⟨ρ, env, hd, er, sh, p⟩ =>
    comp_ok hc hN hsl ht (goE er sh p fun v H1 ρ1 hd1 d x er1 sh1 r1 p1 => p1 ρ1 H1 _ Ext.refl sh1 (er1.set i r1) (by simp))
end
end EV


/-! EvM: repr; defs and their calls, where it is known that no repr is under way. -/
namespace EV
open PySem PySem.Spec PyProof.Rows L2

/-- room for k calls, no repr under way -/
structure RoomG (k : Nat) (A : Around) : Prop where
  room : Room k A
  quiet : A.guards = some []
theorem RoomG.weak {j k : Nat} {A : Around} (r : RoomG k A) (h : j ≤ k) : RoomG j A := ⟨r.room.mono h, r.quiet⟩
theorem RoomG.inner {k : Nat} {A : Around} (r : RoomG (k + 1) A) (env : PySem.Env) : RoomG k (A.deeper env) := ⟨r.room.deeper env, r.quiet⟩
theorem RoomG.room64 {k : Nat} {A : Around} (r : RoomG k A) : A.units + 64 < cLine := by have := r.room.un; omega

/-! ### repr -/
def fRepr : OpN
  | [x], h => match x with
    | .tup _ | .lst _ | .ref _ | .dic _ _ => match toPyT h x with
      | some p => if p.showable = true ∧ p.shown.length ≤ sizeLine ∧ p.depth ≤ 60 then some (.v (.str p.shown)) else none
      | none => none
    | _ => none
  | _, _ => none
section
variable {X : Cx} {C : Ctx} {ρ : RhoT} {H : Hp} {hd : Hd}
theorem fn_repr (hK : X.K = C.K) (hg : X.A.guards = some []) (hu : X.A.units + 64 < cLine) : CallR X (.builtin "repr") (rON C fRepr) := by
  intro pins s σ H xs us Q I rx ⟨ρ, hd, ds, sh, rl, p⟩
  unfold fRepr at p
  split at p
  · rename_i x
    obtain ⟨v, rfl, r1⟩ := relL1 rl
    cases rx with
    | @cons _ u0 _ _ q1 q2 =>
      cases q2
      have key : ∀ {d : PyData}, toPyT hd x = some d → (∃ a, v = .ref a) → PostO C ρ H hd Q (if d.showable = true ∧ d.shown.length ≤ sizeLine ∧ d.depth ≤ 60 then some (.v (.str d.shown)) else none) → wpAny (model X.prog X.w) X.A (call (.builtin "repr") [u0]) (EP X pins σ Q) X.xe s := fun {d} e hv pp => by
        split at pp
        · rename_i hz
          obtain ⟨a, rfl⟩ := hv
          have rd := readsT_of hK I sh e r1 q1
          cases q1
          refine repr_rds (h₀ := s.heap) rd hz.1 hg (by omega) (fun _ _ z => z) (fun h' u tk hk => ?_) hz.2.1
          exact ⟨.str d.shown, H, I.kept hk, ⟨u, rfl⟩, pp.v sh (rel_str hz.2.1)⟩
        · exact pp.elim
      split at p
      all_goals first | exact p.elim | skip
      all_goals
        split at p
        · rename_i d e
          refine key e ?_ p
          first
            | (simp only [Rel] at r1; obtain ⟨a, _, rfl, _⟩ := r1; exact ⟨a, rfl⟩)
            | (simp only [Rel] at r1; obtain ⟨a, rfl, _⟩ := r1; exact ⟨a, rfl⟩)
        · exact p.elim
  · exact p.elim
end

/-! ### a def's promise -/
structure FnG (P : Program) (w : World) (K : PySem.W.Frag) (mg : Str → Option Value) (base : Heap) (CX : CXT) (k : Nat) (f : Addr) (fd : FuncData) (ps : List Str) (sp : Sp) : Prop where
  many : ∀ vs H Q E, sp vs H Q E → vs.length = ps.length
  runs : ∀ (A : Around) (outer : List PySem.Env) (s : Shared) (H : Hp) (args : Args) (us : List Value) (vs : List V) (Q : VK) (E : XK), RoomG k A → Env0 P w K mg base A outer s H → BindsTo s fd args (ps.zip us) → Vals vs us → sp vs H Q E →
    codeAny (model P w) A (.call (.ref f) args) (CR CX outer P w H s Q E) s
theorem FnG.weak {P : Program} {w : World} {K : PySem.W.Frag} {mg : Str → Option Value} {base : Heap} {CX : CXT} {j k : Nat} {f : Addr} {fd : FuncData} {ps : List Str} {sp : Sp} (F : FnG P w K mg base CX j f fd ps sp) (h : j ≤ k) :
    FnG P w K mg base CX k f fd ps sp := ⟨F.many, fun A outer s H args us vs Q E hr => F.runs A outer s H args us vs Q E (hr.weak h)⟩

section
variable {X : Cx} {C : Ctx} {W : WX} {CX : CXT} {k n : Nat} {f : Addr} {fd : FuncData} {ps ks : List Str} {sp : Sp} {x : Str} {p pos : Pos} {e : Expr} {es : List Expr} {kws : List Keyword} {t tk : TA}
/-- how a call's end looks from the caller -/
theorem ends_of {pins : List (Addr × Obj)} {σ : L2.St} {H : Hp} {s : Shared} {Q : VK} {E : XK} (hx : PassesAt CX X σ E) (I : Inv X pins σ H s) {args : Args} (h : codeAny (model X.prog X.w) X.A (.call (.ref f) args) (CR CX X.stack X.prog X.w H s Q E) s) :
    codeAny (model X.prog X.w) X.A (.call (.ref f) args) (fun r s' => match r with | .ok (.ret v) => EP X pins σ Q v s' | .ok _ => False | .error e => X.xe e s') s := by
  refine codeAny_mono h fun r s' hq => ?_
  rcases r with e | (u | _ | _ | _)
  · exact hx pins H s e s' I hq
  all_goals first | exact I.after hq | exact False.elim hq
/-- the values of a call, the defaults behind them -/
def tCl (sp : Sp) (dvs : List V) (E : L2.St → XK) (t : TA) : TE := fun σ H Q => t σ H fun vs H1 => sp (vs ++ dvs) H1 Q (E σ)
theorem run_fnG {pins : List (Addr × Obj)} {σ : L2.St} {H : Hp} {s : Shared} {Q : VK} {E : XK} {us ds : List Value} {vs dvs : List V} (F : FnG X.prog X.w X.K X.mg X.base CX k f fd ps sp) (hr : RoomG k X.A) (hb : Binds X.K fd ps ds) (hd : Vals dvs ds) (hx : PassesAt CX X σ E)
    (I : Inv X pins σ H s) (r : Vals vs us) (h : sp (vs ++ dvs) H Q E) : wpAny (model X.prog X.w) X.A (call (.ref f) us) (EP X pins σ Q) X.xe s := by
  have rr := r.append hd
  have hl : (us ++ ds).length = ps.length := rr.length.symm.trans (F.many _ _ _ _ h)
  refine wpAny_call (codeAny_mono (ends_of (pins := pins) hx I (F.runs _ _ s H _ _ _ Q E hr I.env0 (hb s us I.kIn hl) rr h)) fun r s' q => ?_)
  rcases r with e | (u | _ | _ | _) <;> first | exact q | exact q.elim
theorem pe_callG {E : L2.St → XK} {dvs : List V} {ds : List Value} (F : FnG X.prog X.w X.K X.mg X.base CX k f fd ps sp) (hr : RoomG k X.A) (hg : Gl X x) (hm : X.mg x = some (.ref f)) (hk : PySem.W.keepIn X.K (.ref f) = true) (hb : Binds X.K fd ps ds) (hd : Vals dvs ds) (hx : ∀ σ, PassesAt CX X σ (E σ))
    (ha : PA X (e :: es) t) (hdb : (x == ("__debug__" : Str)) = false) (hs : noStars (e :: es) = true) : PE X (.Call (.Name x p) (e :: es) [] pos) (tCl sp dvs E t) := by
  have hs' : notStar e = true ∧ noStars es = true := by unfold noStars at hs; rwa [Bool.and_eq_true] at hs
  exact ⟨fun pins s σ H Q I h => wpAny_Call_Name_kw (ld_glob I hg hm (PySem.W.callWith_K (h₀ := X.base) I.ok.mod.kin hk (thn (ha.run pos pins s σ H _ I h) fun us s1 ⟨vs, H1, I1, r, q⟩ => ⟨I1.kIn, run_fnG F hr hb hd (hx σ) I1 r q⟩) (starEach_at hs'.1) (plain_of hs'.2)) hdb)⟩
theorem pe_callG0 {E : L2.St → XK} {dvs : List V} {ds : List Value} (F : FnG X.prog X.w X.K X.mg X.base CX k f fd ps sp) (hr : RoomG k X.A) (hg : Gl X x) (hm : X.mg x = some (.ref f)) (hk : PySem.W.keepIn X.K (.ref f) = true) (hb : Binds X.K fd ps ds) (hd : Vals dvs ds) (hx : ∀ σ, PassesAt CX X σ (E σ))
    (hdb : (x == ("__debug__" : Str)) = false) : PE X (.Call (.Name x p) [] [] pos) (tCl sp dvs E tNil) :=
  ⟨fun pins s σ H Q I h => wpAny_Call_Name_kw (ld_glob I hg hm (PySem.W.callWith_K0 I.kIn hk (run_fnG (us := []) F hr hb hd (hx σ) I .nil h)) hdb)⟩
def tClN (n m : Nat) (sp : Sp) (gV : List V → List V → List V) (E : L2.St → XK) (t tk : TA) : TE := fun σ H Q => t σ H fun vs H1 => tk σ H1 fun zs H2 => vs.length = n ∧ zs.length = m ∧ sp (gV vs zs) H2 Q (E σ)
theorem pe_callGN {E : L2.St → XK} {g : List Value → List Value → List Value} {gV : List V → List V → List V} (F : FnG X.prog X.w X.K X.mg X.base CX k f fd ps sp) (hr : RoomG k X.A) (hg : Gl X x) (hm : X.mg x = some (.ref f)) (hk : PySem.W.keepIn X.K (.ref f) = true) (hb : KBn X.K fd ps n ks g gV) (hx : ∀ σ, PassesAt CX X σ (E σ))
    (ha : PA X (e :: es) t) (hkw : PK X kws tk) (hall : (backToKw pos (keywordEach kws X.env)).all (·.1.isSome) = true) (hks : (backToKw pos (keywordEach kws X.env)).filterMap (·.1) = ks)
    (hdb : (x == ("__debug__" : Str)) = false) (he : starEach (e :: es) X.env = (false, eval e X.env) :: starEach es X.env)
    (hpl : ((backTo pos (starEach (e :: es) X.env)).any (·.1) || (backToKw pos (keywordEach kws X.env)).any (·.1.isNone)) = false) :
    PE X (.Call (.Name x p) (e :: es) kws pos) (tClN n ks.length sp gV E t tk) := by
  refine ⟨fun pins s σ H Q I h => wpAny_Call_Name_kw (ld_glob I hg hm (PySem.W.callWith_KW (h₀ := X.base) I.ok.mod.kin hk hall (thn (ha.run pos pins s σ H _ I h) fun us s1 ⟨vs, H1, I1, r, q⟩ =>
    thn (hkw.run pos pins s1 σ H1 _ I1 q) fun ws s2 ⟨zs, H2, I2, rz, l1, l2, q2⟩ => ⟨I2.kIn, ?_⟩) hpl he) hdb)⟩
  rw [hks]
  refine wpAny_call (codeAny_mono (ends_of (pins := pins) (hx σ) I2 (F.runs _ _ s2 H2 _ _ _ Q (E σ) hr I2.env0 (hb.to s2 us ws I2.kIn (r.length.symm.trans l1) (rz.length.symm.trans l2)) (hb.rel r rz) q2)) fun r s' q => ?_)
  rcases r with e | (u | _ | _ | _) <;> first | exact q | exact q.elim
end

/-! ### a def by its body -/
section
variable {CX : CXT} {P : Program} {w : World} {K : PySem.W.Frag} {mg : Str → Option Value} {base : Heap} {k : Nat} {f : Addr} {x qual : Str} {params : Arguments} {body : List Stmt} {scope : Scope} {dvs : List V} {kws : List (Str × V)} {fd : FuncData} {N ps : List Str} {sp : Sp}
theorem fnG_of (F : FunD K x qual params body scope dvs kws f fd) (S : FnScope N ps scope) (many : ∀ vs H Q E, sp vs H Q E → vs.length = ps.length)
    (hbody : ∀ (cdv : Value) (A : Around) (outer : List PySem.Env) (s : Shared) (H : Hp) (vs : List V) (Q : VK) (E : XK), RoomG k (A.deeper (envOfC qual scope s.heap.objs.size f cdv)) → sp vs H Q E →
      ∃ t, PSs (cxOf CX P w K mg base N qual scope f cdv A outer s H E) body t ∧ t { nx := fun _ H' => Q .non H', rt := Q } (start N vs) H) : FnG P w K mg base CX (k + 1) f fd ps sp := by
  obtain ⟨oc, od, dV, kV, doc, pm, an, cdv, ct, osl, rfl, at_, code, -, -⟩ := F.ex
  constructor
  · exact many
  intro A outer s H args us vs Q E room e0 bound rv want
  have inK : K.In s.heap := e0.mod.kin.keeps fun b o e => (e0.bs b o e).1
  have noLim : s.heap.NoLimit := e0.mod.nolimit.keeps fun b o e => (e0.bs b o e).1
  have cell : ∀ {y : Str}, scope.names.lookup y = some .cell → ((cellsFrom (s.heap.objs.size + 1) scope.names []).lookup y).isSome = true := fun q => PySem.W.cellsFrom_some _ _ _ (.inl q)
  refine codeAny_call_function room.room.depth (inK _ _ at_) rfl S.co S.gen rfl (PySem.W.codeRec_of inK code) (bound _ _ _ _ ?_)
  refine wpAny_newFunctionEnv_cells S.kind (fun y hy => (S.par y.1 (List.of_mem_zip (show (y.1, y.2) ∈ _ from hy)).1).imp id fun q => ⟨q, cell q⟩) fun env he s1 made => ?_
  subst he
  refine ⟨noLim.keeps made.toInCall.keep, codeAny_func ?_⟩
  obtain ⟨t, does, goal⟩ := hbody cdv A outer s H vs Q E (room.inner _) want
  refine wpAny_mono (does.run [] s1 (start N vs) H _ (inv_start S room.room.hd e0 (many _ _ _ _ want) rv made) goal) (fun fl s' hs => ?_) fun e s' hs => hs
  have last : ∀ {σ' : L2.St} {H' : Hp} {v : V} {u : Value}, Inv (cxOf CX P w K mg base N qual scope f cdv A outer s H E) [] σ' H' s' → RelV v u → Q v H' → CE outer P w H s Q u s' :=
    fun {_ H' v _} J r q => ⟨v, H', J.os, J.bare, J.base, J.hok, r, q⟩
  rcases fl with u | _ | _ | _
  all_goals first
    | (obtain ⟨v, σ', H', J, r, q⟩ := hs; exact last J r q)
    | (obtain ⟨σ', H', J, q⟩ := hs; exact last (v := V.non) (u := Value.none) J rfl q)
    | (obtain ⟨_, _, _, q⟩ := hs; exact q.elim)
end
end EV


/-! EvN: the program's defs in the evaluator; the law's own call. -/
namespace EV
open PySem PySem.Spec PyProof.Rows L2

abbrev FunT := List D → Hd → Res D
def spM (C : Ctx) (n : Nat) (F : FunT) : Sp := fun vs H Q E => vs.length = n ∧ ∃ ρ hd ds, SimH C ρ H hd ∧ RelL C ρ H ds vs ∧ PostX C (Rel C) ρ H E Q (F ds hd)
def startE (n : Nat) (ds : List D) : Env := ds.map some ++ List.replicate (n - ds.length) none
/-- a def: its body, run at its parameters' values -/
def runB (n : Nat) (m : MS) : FunT := fun ds hd => match m (startE n ds) hd with
  | some (.nx, _, h) => .ok .non h
  | some (.ret d, _, h) => .ok d h
  | some (.exc x, _, h) => .exc x h
  | _ => .bad
/-- f(e, ..): n parameters, the last ones by their defaults -/
def mcall (F : FunT) (n : Nat) (dd : List D) (as : M (List D)) : M D := fun env h => (as env h).bind fun xs h1 => if (xs ++ dd).length = n then F (xs ++ dd) h1 else .bad
def mcallN (F : FunT) (n i j : Nat) (g : List D → List D → List D) (as ks : M (List D)) : M D := fun env h => (as env h).bind fun xs h1 => (ks env h1).bind fun zs h2 => if xs.length = i ∧ zs.length = j ∧ (g xs zs).length = n then F (g xs zs) h2 else .bad

section
variable {X : Cx} {C : Ctx} {W : WX} {CX : CXT} {k n i : Nat} {f : Addr} {fd : FuncData} {ps ks : List Str} {F : FunT} {x : Str} {p pos kpos : Pos} {e : Expr} {es : List Expr} {kws : List Keyword} {ms mk : M (List D)} {ma : M D} {dd : List D} {nm : Option Str}
theorem weakK {t t' : TA} (h : PK X kws t) (w : ∀ σ H Q, t' σ H Q → t σ H Q) : PK X kws t' := ⟨fun pos pins s σ H Q I q => h.run pos pins s σ H Q I (w σ H Q q)⟩
theorem evk_nil : PK X [] (tL C W mnil) := weakK pk_nil fun σ H Q ⟨ρ, env, hd, er, sh, p⟩ => p.here sh RelL.nil
theorem evk_cons (ha : PE X e (tE C W ma)) (hr : PK X kws (tL C W mk)) : PK X (⟨nm, e, kpos⟩ :: kws) (tL C W (mcons ma mk)) :=
  weakK (pk_cons ha hr) fun σ H Q ⟨ρ, env, hd, er, sh, p⟩ =>
    seqE er sh p fun v H1 ρ1 hd1 d x er1 sh1 r1 p1 => seqL er1 sh1 p1 fun vs H2 ρ2 hd2 ds x2 er2 sh2 r2 p2 => p2.here sh2 (RelL.cons (Rel.ext x2 _ _ r1) r2)
theorem ev_call {dvs : List V} {ds : List Value} (G : FnG X.prog X.w X.K X.mg X.base CX k f fd ps (spM C n F)) (hr : RoomG k X.A) (hg : Gl X x) (hm : X.mg x = some (.ref f)) (hk : PySem.W.keepIn X.K (.ref f) = true) (hb : Binds X.K fd ps ds) (hd : Vals dvs ds)
    (hdd : ∀ ρ H, RelL C ρ H dd dvs) (hx : ∀ σ, PassesAt CX X σ fun c d H => W c d σ H) (ha : PA X (e :: es) (tL C W ms)) (hdb : (x == ("__debug__" : Str)) = false) (hs : noStars (e :: es) = true) : PE X (.Call (.Name x p) (e :: es) [] pos) (tE C W (mcall F n dd ms)) :=
  weakE (pe_callG G hr hg hm hk hb hd hx ha hdb hs) fun σ H Q ⟨ρ, env, hd, er, sh, p⟩ => seqL er sh p fun vs H1 ρ1 hd1 ds x er1 sh1 r1 p1 => by
    split at p1
    · rename_i hl
      have rr := r1.append (hdd ρ1 H1)
      exact ⟨rr.length.symm.trans hl, ρ1, hd1, _, sh1, rr, p1⟩
    · exact p1.elim
theorem ev_call0 {dvs : List V} {ds : List Value} (G : FnG X.prog X.w X.K X.mg X.base CX k f fd ps (spM C n F)) (hr : RoomG k X.A) (hg : Gl X x) (hm : X.mg x = some (.ref f)) (hk : PySem.W.keepIn X.K (.ref f) = true) (hb : Binds X.K fd ps ds) (hd : Vals dvs ds)
    (hdd : ∀ ρ H, RelL C ρ H dd dvs) (hx : ∀ σ, PassesAt CX X σ fun c d H => W c d σ H) (hdb : (x == ("__debug__" : Str)) = false) : PE X (.Call (.Name x p) [] [] pos) (tE C W (mcall F n dd mnil)) :=
  weakE (pe_callG0 G hr hg hm hk hb hd hx hdb) fun σ H Q ⟨ρ, env, hd, er, sh, p1⟩ => by
    unfold mcall mnil at p1
    rw [Res.bind_ok] at p1
    split at p1
    · rename_i hl
      have rr := (RelL.nil (C := C) (ρ := ρ) (H := H)).append (hdd ρ H)
      exact ⟨rr.length.symm.trans hl, ρ, hd, _, sh, rr, p1⟩
    · exact p1.elim
theorem ev_callN {g : List Value → List Value → List Value} {gV : List V → List V → List V} {gD : List D → List D → List D} (G : FnG X.prog X.w X.K X.mg X.base CX k f fd ps (spM C n F)) (hr : RoomG k X.A) (hg : Gl X x) (hm : X.mg x = some (.ref f)) (hk : PySem.W.keepIn X.K (.ref f) = true)
    (hb : KBn X.K fd ps i ks g gV) (hdd : ∀ ρ H ds vs es zs, RelL C ρ H ds vs → RelL C ρ H es zs → RelL C ρ H (gD ds es) (gV vs zs)) (hx : ∀ σ, PassesAt CX X σ fun c d H => W c d σ H) (ha : PA X (e :: es) (tL C W ms)) (hkw : PK X kws (tL C W mk))
    (hall : (backToKw pos (keywordEach kws X.env)).all (·.1.isSome) = true) (hks : (backToKw pos (keywordEach kws X.env)).filterMap (·.1) = ks) (hno : (backToKw pos (keywordEach kws X.env)).any (·.1.isNone) = false)
    (hdb : (x == ("__debug__" : Str)) = false) (hs : noStars (e :: es) = true) : PE X (.Call (.Name x p) (e :: es) kws pos) (tE C W (mcallN F n i ks.length gD ms mk)) := by
  have hs' : notStar e = true ∧ noStars es = true := by unfold noStars at hs; rwa [Bool.and_eq_true] at hs
  exact weakE (pe_callGN G hr hg hm hk hb hx ha hkw hall hks hdb (starEach_at hs'.1) (by rw [plain_of hs, hno]; rfl)) fun σ H Q ⟨ρ, env, hd, er, sh, p⟩ =>
    seqL er sh p fun vs H1 ρ1 hd1 ds x er1 sh1 r1 p1 => seqL er1 sh1 p1 fun zs H2 ρ2 hd2 es x2 er2 sh2 r2 p2 => by
      split at p2
      · rename_i hl
        have r1' := RelL.ext x2 _ _ r1
        have rr := hdd ρ2 H2 _ _ _ _ r1' r2
        exact ⟨r1.length.symm.trans hl.1, r2.length.symm.trans hl.2.1, rr.length.symm.trans hl.2.2, ρ2, hd2, _, sh2, rr, p2⟩
      · exact p2.elim
end

theorem start_env {C : Ctx} {ρ : RhoT} {H : Hp} {N : List Str} {ds : List D} {vs : List V} (r : RelL C ρ H ds vs) : EnvRel C ρ H (startE N.length ds) (L2.start N vs) := by
  have hl := r.length
  refine ⟨?_, fun i d e => ?_⟩
  · unfold startE L2.start
    rw [List.length_append, List.length_append, List.length_map, List.length_map, List.length_replicate, List.length_replicate, hl]
  · unfold startE at e
    unfold L2.start
    by_cases hi : i < ds.length
    · rw [List.getElem?_append_left (by simpa using hi), List.getElem?_map] at e
      rw [List.getElem?_append_left (by simpa [← hl] using hi), List.getElem?_map]
      cases q : ds[i]? with
      | none => rw [q] at e; cases e
      | some d' =>
        rw [q] at e; cases e
        obtain ⟨v, e1, r1⟩ := r.get q
        exact ⟨v, by rw [e1]; rfl, r1⟩
    · rw [List.getElem?_append_right (by simpa using hi), List.getElem?_replicate] at e
      split at e <;> cases e
section
variable {C : Ctx} {CX : CXT} {P : Program} {w : World} {mg : Str → Option Value} {base : Heap} {k : Nat} {f : Addr} {x qual : Str} {params : Arguments} {body : List Stmt} {scope : Scope} {dvs : List V} {kws : List (Str × V)} {fd : FuncData} {N ps : List Str} {m : MS}
theorem fn_sound (F : FunD C.K x qual params body scope dvs kws f fd) (S : FnScope N ps scope)
    (hb : ∀ (cdv : Value) (A : Around) (outer : List PySem.Env) (s : Shared) (H : Hp) (E : XK), RoomG k (A.deeper (envOfC qual scope s.heap.objs.size f cdv)) →
      PSs (cxOf CX P w C.K mg base N qual scope f cdv A outer s H E) body (tS C (fun c d _ H => E c d H) m)) : FnG P w C.K mg base CX (k + 1) f fd ps (spM C ps.length (runB N.length m)) :=
  fnG_of F S (fun vs H Q E h => h.1) fun cdv A outer s H vs Q E room ⟨hl, ρ, hd, ds, sh, r, p⟩ => ⟨_, hb cdv A outer s H E room, ρ, _, hd, start_env r, sh, by
    unfold runB at p
    cases hm : m (startE N.length ds) hd with
    | none => rw [hm] at p; exact p
    | some q =>
      obtain ⟨fl, env', hd'⟩ := q
      rw [hm] at p
      cases fl with
      | nx => exact fun ρ' H' σ' x s e l => p ρ' H' .non x s rel_non
      | ret d => exact fun ρ' H' σ' x s e l v r => p ρ' H' v x s r
      | exc y => exact fun ρ' H' σ' x s e l dd r => p ρ' H' dd x s r
      | bk => exact p.elim
      | ct => exact p.elim⟩
end

/-! ### the law's call -/
section
variable {P : Program} {w : World} {K : PySem.W.Frag} {mg mb : Str → Option Value} {CX : CXT} {k : Nat} {fa a : Addr} {fd : FuncData} {x : Str} {sp : Sp} {s₁ : Shared} {vs : List Value} {ns : List Int}
/-- the heap that tracks the script alone, where the object is not the module's own -/
def scrH (K : PySem.W.Frag) (a : Addr) (o : Obj) (ns : List Int) : Hp := fun b => if b = a then (match K.lookup a with | some _ => none | none => some (.frz o (.lst (ns.map V.int)))) else none
theorem law_callG (KX : K.In s₁.heap) (hns : s₁.heap.Ns mainGlobals mg) (hb : s₁.heap.Ns builtinsNs mb) (hbb : ∀ x : Str, x ≠ "__name__" → mb x = bootBuiltins x) (hlim : s₁.heap.NoLimit) (hg : s₁.gens = #[])
    (ha : s₁.heap.get? a = some { cls := .type "list", data := .seq vs.toArray }) (hi : IntsAre vs ns) (hl : ns.length ≤ sizeLine) (hr : RoomG k callerA)
    (F : ∀ base : Heap, K.In base → base.Ns mainGlobals mg → FnG P w K mg base CX k fa fd [x] sp) (hbind : ∀ (s : Shared) (u : Value), BindsTo s fd ⟨[u], []⟩ [(x, u)])
    (hsp : ∀ H : Hp, SqL K H a (ns.map V.int) → sp [.ref a] H (fun v _ => v = .bl true) fun _ _ _ => False) (hCX : ∀ H e s', CX [] H s₁ (fun _ _ _ => False) e s' → False) :
    codeAny (model P w) callerA (.call (.ref fa) ⟨[.ref a], []⟩) (fun r s' => r = .ok (.ret (.bool true)) ∧ OldK s₁.heap s'.heap ∧ s'.os = s₁.os ∧ AllBare s'.gens) s₁ := by
  have values := vals_ints hi
  have size := hi.length
  let o : Obj := { cls := .type "list", data := .seq vs.toArray }
  let H := scrH K a o ns
  have cases_ : ∀ b u, H b = some u → b = a ∧ K.lookup a = none ∧ u = .frz o (.lst (ns.map V.int)) := fun b u e => by
    have e' : (if b = a then (match K.lookup a with | some _ => none | none => some (HO.frz o (.lst (ns.map V.int)))) else none) = some u := e
    split at e'
    · split at e'
      · cases e'
      · rename_i q
        cases e'
        exact ⟨by assumption, q, rfl⟩
    · cases e'
  have other : ∀ b ob es ep, s₁.heap.get? b = some ob → ob.data = .dict es ep → H b = none := fun b ob es ep e d => by
    cases q : H b with
    | none => rfl
    | some u =>
      obtain ⟨rfl, -, -⟩ := cases_ b u q
      rw [ha] at e; cases e; cases (show Data.seq vs.toArray _ = Data.dict es ep from d)
  have names : ∀ {b : Addr} {m : Str → Option Value}, s₁.heap.Ns b m → (hidT s₁.heap H).Ns b m := fun {b m} ⟨ob, es, ep, e, d, r⟩ => ⟨ob, es, ep, hidT_get e (other b ob es ep e d), d, r⟩
  have inK : K.In (hidT s₁.heap H) := fun b ob e => hidT_get (KX b ob e) (by
    cases q : H b with
    | none => rfl
    | some u =>
      obtain ⟨rfl, n, -⟩ := cases_ b u q
      rw [n] at e; cases e)
  have script : SqL K H a (ns.map V.int) := by
    cases q : K.lookup a with
    | none => exact .inl (.inr ⟨o, by show (if a = a then _ else _) = _; rw [if_pos rfl, q]⟩)
    | some ob =>
      have e := KX a ob q
      rw [ha] at e; cases e
      exact .inr ⟨_, vs.toArray, _, q, rfl, rfl, rfl, by rw [List.size_toArray, size]; exact hl, by simpa using values⟩
  have okH : HOk P w H s₁.heap := fun b u e => by
    obtain ⟨rfl, -, rfl⟩ := cases_ b u e
    exact ⟨ha, by rw [List.length_map]; exact hl, vs, _, values, ha⟩
  have room0 : Env0 P w K mg (hidT s₁.heap H) callerA [] s₁ H :=
    ⟨rfl, ⟨inK, names hns, ⟨mb, names hb, hbb⟩, hlim.imp fun mc h => ⟨names h.1, h.2⟩⟩, fun b ob e => of_hidT e, Nat.le_of_eq (hidT_size _ _), trivial, (fun b hb => nomatch hb), okH, .of_eq hg⟩
  refine codeAny_mono ((F _ inK (names hns)).runs callerA [] s₁ H _ [.ref a] [.ref a] _ _ hr room0 (hbind s₁ (.ref a)) (.cons rfl .nil) (hsp H script)) fun r s' h => ?_
  rcases r with e | fl
  · exact (hCX H e s' h).elim
  obtain ⟨u, rfl⟩ : ∃ u, fl = .ret u := by
    cases fl with
    | ret u => exact ⟨u, rfl⟩
    | _ => exact False.elim h
  obtain ⟨v, H', os, bare, un, hok', rv, rfl⟩ := h
  obtain rfl : u = Value.bool true := rv
  refine ⟨rfl, OldK.of_keep fun b ob e => ?_, os, bare⟩
  cases q : H b with
  | none => exact un.keep b ob e q (fun z => nomatch z) (fun z => nomatch z)
  | some u =>
    obtain ⟨rfl, -, rfl⟩ := cases_ b u q
    obtain ⟨e2, _⟩ := hok' b _ (un.frzs b _ _ q)
    rw [ha] at e; cases e
    exact e2
theorem walk_G {l : PySem.W.OpenLaw} {n : Nat} {q : Program} {loose : List Str} {XP : (Str → Option Value) → Heap → Prop} {YP : World → Heap → Prop} {d : DefRec} {K : Params → PySem.W.Frag} {CX : World → CXT} {F : World → FunT}
    (hn : l.most = some n) (hn2 : n ≤ sizeLine) (hdf : d.params.defaults = []) (hr : Room k callerA)
    (hY : ∀ (w : World) (h : Heap), YP w h → (K w.params).In h)
    (G : ∀ (w : World) (mg : Str → Option Value) (fa : Addr) (h : Heap), (K w.params).In h → h.Ns mainGlobals mg → mg d.name = some (.ref fa) →
      ∃ (fd : FuncData) (C : Ctx), C.K = K w.params ∧ (∀ (s : Shared) (u : Value), BindsTo s fd ⟨[u], []⟩ [(x, u)]) ∧
        ∀ base : Heap, (K w.params).In base → base.Ns mainGlobals mg → FnG l.prog w (K w.params) mg base (CX w) k fa fd [x] (spM C 1 (F w)))
    (hF : ∀ (w : World) (ns : List Int), ns.length ≤ n → ∃ h, F w [.scr ns] [] = .ok (.bl true) h)
    (hCX : ∀ (w : World) (H : Hp) (s : Shared) (e : Value) (s' : Shared), CX w [] H s (fun _ _ _ => False) e s' → False) :
    PySem.W.WalkO q loose XP YP l.row.toRowW d [] (fun f vs => PySem.call f vs) := by
  refine Att.attach_call hn hdf fun w s₀ s₁ mg mb fa o pm cd doc a vs ns Gr Y _ _ _ hmg hobj hints hlen hg => ?_
  obtain ⟨fd, C, hK, hb, hG⟩ := G w mg fa _ (hY w _ Y) Gr.T.g hmg
  refine law_callG (hY w _ Y) Gr.T.g Gr.T.b Gr.T.builtins Gr.T.nolimit hg hobj hints (Nat.le_trans hlen hn2) ⟨hr, rfl⟩ hG hb (fun H hS => ?_) fun H => hCX w H s₁
  obtain ⟨h, e⟩ := hF w ns hlen
  refine ⟨rfl, ⟨[], []⟩, [], [.scr ns], ⟨rfl, (fun m n a z => nomatch z), (fun n a z => nomatch z), (fun n o z => nomatch z), (fun a z => nomatch z), (fun n a z => nomatch z)⟩, ?_, ?_⟩
  · refine RelL.cons ?_ RelL.nil
    simp only [Rel]
    refine ⟨a, rfl, ?_, Nat.le_trans hlen hn2⟩
    rcases hS with hS | hS
    · exact .inl ⟨hS, (fun n z => nomatch z), (fun z => nomatch z)⟩
    · exact .inr (hK ▸ hS)
  · rw [e]
    exact fun ρ' H' v x s r => of_bl r
end
end EV


/-! EvO: the rules in the shape that the printed proofs use. -/
namespace EV
open PySem PySem.Spec PyProof.Rows L2

theorem bb_len : bootBuiltins "len" = some (.builtin "len") := by rfl
theorem bb_all : bootBuiltins "all" = some (.builtin "all") := by rfl
theorem bb_any : bootBuiltins "any" = some (.builtin "any") := by rfl
theorem bb_sum : bootBuiltins "sum" = some (.builtin "sum") := by rfl
theorem bb_abs : bootBuiltins "abs" = some (.builtin "abs") := by rfl
theorem bb_max : bootBuiltins "max" = some (.builtin "max") := by rfl
theorem bb_min : bootBuiltins "min" = some (.builtin "min") := by rfl
theorem bb_divmod : bootBuiltins "divmod" = some (.builtin "divmod") := by rfl
theorem bb_isinstance : bootBuiltins "isinstance" = some (.builtin "isinstance") := by rfl
theorem bb_repr : bootBuiltins "repr" = some (.builtin "repr") := by rfl
theorem bt_int : bootBuiltins "int" = some (.type "int") := by rfl
theorem bt_str : bootBuiltins "str" = some (.type "str") := by rfl
theorem bt_bool : bootBuiltins "bool" = some (.type "bool") := by rfl
theorem bt_tuple : bootBuiltins "tuple" = some (.type "tuple") := by rfl
theorem bt_list : bootBuiltins "list" = some (.type "list") := by rfl
theorem bt_dict : bootBuiltins "dict" = some (.type "dict") := by rfl
theorem ne_name {x y : Str} (h : (x == y) = false) : x ≠ y := beq_eq_false_iff_ne.mp h
def visB (sc : Scope) (x : Str) : Bool := match sc.names.lookup x with
  | some .local => true
  | some .cell => true
  | some .free => true
  | _ => false
/-- a name of the top and its value -/
structure GVal (C : Ctx) (mg : Str → Option Value) (x : Str) (d : D) : Prop where
  ex : ∃ (v : V) (u : Value), mg x = some u ∧ RelV v u ∧ ∀ ρ H, Rel C ρ H d v
/-- a def of the top: dd its defaults that fill up -/
structure CallOk (C : Ctx) (P : Program) (w : World) (mg : Str → Option Value) (base : Heap) (CX : CXT) (k : Nat) (x : Str) (n : Nat) (F : FunT) (dd : List D) : Prop where
  ex : ∃ (f : Addr) (fd : FuncData) (ps : List Str) (dvs : List V) (ds : List Value), mg x = some (.ref f) ∧ PySem.W.keepIn C.K (.ref f) = true ∧ FnG P w C.K mg base CX k f fd ps (spM C n F) ∧ Binds C.K fd ps ds ∧ Vals dvs ds ∧ ∀ ρ H, RelL C ρ H dd dvs
/-- .. called by keywords -/
structure CallKw (C : Ctx) (P : Program) (w : World) (mg : Str → Option Value) (base : Heap) (CX : CXT) (k : Nat) (x : Str) (n : Nat) (F : FunT) (i : Nat) (ks : List Str) (gD : List D → List D → List D) : Prop where
  ex : ∃ (f : Addr) (fd : FuncData) (ps : List Str) (g : List Value → List Value → List Value) (gV : List V → List V → List V), mg x = some (.ref f) ∧ PySem.W.keepIn C.K (.ref f) = true ∧ FnG P w C.K mg base CX k f fd ps (spM C n F) ∧ KBn C.K fd ps i ks g gV ∧
    ∀ ρ H ds vs es zs, RelL C ρ H ds vs → RelL C ρ H es zs → RelL C ρ H (gD ds es) (gV vs zs)
theorem passAt0 {X : Cx} {σ : L2.St} {E : XK} : PassesAt CX0 X σ E := fun _ _ _ _ _ _ h => h.elim

section
variable {X : Cx} {C : Ctx} {W : WX} {CX : CXT} {pos p q cpos apos : Pos} {x : Str} {a b e o : Expr} {es rest : List Expr} {ms mk : M (List D)} {ma mb mo : M D} {ta tb : M Bool} {d : D} {i k n j : Nat} {F : FunT} {dd : List D} {kws : List Keyword}
theorem ev_pv (hN : X.N[i]? = some x) (hv : visB X.env.scope x = true) (hd : (x == ("__debug__" : Str)) = false) (hc : (x == ("__classdict__" : Str)) = false) : PE X (.Name x pos) (tE C W (mvar i)) :=
  ev_var (pe_var hN (by
    unfold visB at hv
    unfold Vis
    split at hv
    · rename_i z; exact .inl z
    · rename_i z; exact .inr (.inl z)
    · rename_i z; exact .inr (.inr z)
    · cases hv) hd hc)
theorem ev_int {i : Int} {j : Nat} : PE X (.Constant (.int i) j pos) (tE C W (mc (.int i))) := ev_const pe_int fun _ _ => rel_int
theorem ev_bl {b : Bool} {j : Nat} : PE X (.Constant (.bool b) j pos) (tE C W (mc (.bl b))) := ev_const pe_bl fun _ _ => rel_bl
theorem ev_non {j : Nat} : PE X (.Constant .none j pos) (tE C W (mc .non)) := ev_const pe_non fun _ _ => rel_non
theorem ev_str {z : Str} {j : Nat} (h : decide (z.length ≤ 100000) = true) : PE X (.Constant (.str z) j pos) (tE C W (mc (.str z))) := ev_const pe_str fun _ _ => rel_str (by have := of_decide_eq_true h; rw [sizeLine_eq]; omega)
theorem ev_glob (g : GVal C X.mg x d) (hg : X.env.kindOf x = some .globalImplicit) (hd : (x == ("__debug__" : Str)) = false) : PE X (.Name x pos) (tE C W (mc d)) := by
  obtain ⟨v, u, e, r, z⟩ := g.ex
  exact ev_const (pe_glob hg e r hd) z
theorem ev_ty {t : Ty} (hm : X.mg x = none) (hg : X.env.kindOf x = some .globalImplicit) (hv : bootBuiltins x = some (.type t.nm)) (hn : (x == ("__name__" : Str)) = false) (hd : (x == ("__debug__" : Str)) = false) : PE X (.Name x pos) (tE C W (mc (.ty t))) :=
  ev_const (pe_bltn (v := .ty t.nm) hg hm hv rfl (ne_name hn) hd) fun _ _ => by simp only [Rel]
def mdic0 : M D := fun _ h => .ok (.dic [] []) h
theorem ev_dic0 : PE X (.Dict [] [] pos) (tE C W mdic0) := weakE pe_dnewK fun σ H Q ⟨ρ, env, hd, er, sh, p⟩ q hq => by
  refine p _ _ _ (Ext.upd_new hq) (sh.upd_new hq) ?_
  simp only [Rel]
  exact ⟨q, [], rfl, ⟨upd_same, sh.unm hq⟩, RelL.nil, rfl⟩
theorem ev_B {m : Bool} {id : String} {f : OpN} (hc : CallR X (.builtin id) (rON C f)) (hm : X.mg x = none) (hg : X.env.kindOf x = some .globalImplicit) (hv : bootBuiltins x = some (.builtin id)) (ha : PA X (e :: es) (tL C W ms))
    (hn : (x == ("__name__" : Str)) = false) (hd : (x == ("__debug__" : Str)) = false) (hs : noStars (e :: es) = true) : PE X (.Call (.Name x p) (e :: es) [] pos) (tE C W (mfun m f ms)) := ev_callB hc hg hm hv ha (ne_name hn) hd hs
theorem ev_T {m : Bool} {T : String} {f : OpN} (hc : CallR X (.type T) (rON C f)) (hm : X.mg x = none) (hg : X.env.kindOf x = some .globalImplicit) (hv : bootBuiltins x = some (.type T)) (ha : PA X (e :: es) (tL C W ms))
    (hn : (x == ("__name__" : Str)) = false) (hd : (x == ("__debug__" : Str)) = false) (hs : noStars (e :: es) = true) : PE X (.Call (.Name x p) (e :: es) [] pos) (tE C W (mfun m f ms)) := ev_callTy hc hg hm hv ha (ne_name hn) hd hs
theorem ev_user (hK : X.K = C.K) (c : CallOk C X.prog X.w X.mg X.base CX j x n F dd) (hr : RoomG k X.A) (hj : decide (j ≤ k) = true) (hg : X.env.kindOf x = some .globalImplicit) (hx : ∀ σ, PassesAt CX X σ fun c d H => W c d σ H) (ha : PA X (e :: es) (tL C W ms))
    (hd : (x == ("__debug__" : Str)) = false) (hs : noStars (e :: es) = true) : PE X (.Call (.Name x p) (e :: es) [] pos) (tE C W (mcall F n dd ms)) := by
  obtain ⟨f, fd, ps, dvs, ds, e1, e2, G, b, v, r⟩ := c.ex
  rw [← hK] at e2 G b
  exact ev_call G (hr.weak (of_decide_eq_true hj)) hg e1 e2 b v r hx ha hd hs
theorem ev_user0 (hK : X.K = C.K) (c : CallOk C X.prog X.w X.mg X.base CX j x n F dd) (hr : RoomG k X.A) (hj : decide (j ≤ k) = true) (hg : X.env.kindOf x = some .globalImplicit) (hx : ∀ σ, PassesAt CX X σ fun c d H => W c d σ H)
    (hd : (x == ("__debug__" : Str)) = false) : PE X (.Call (.Name x p) [] [] pos) (tE C W (mcall F n dd mnil)) := by
  obtain ⟨f, fd, ps, dvs, ds, e1, e2, G, b, v, r⟩ := c.ex
  rw [← hK] at e2 G b
  exact ev_call0 G (hr.weak (of_decide_eq_true hj)) hg e1 e2 b v r hx hd
theorem ev_userN {ks : List Str} {gD : List D → List D → List D} (hK : X.K = C.K) (c : CallKw C X.prog X.w X.mg X.base CX j x n F i ks gD) (hr : RoomG k X.A) (hj : decide (j ≤ k) = true) (hg : X.env.kindOf x = some .globalImplicit) (hx : ∀ σ, PassesAt CX X σ fun c d H => W c d σ H) (ha : PA X (e :: es) (tL C W ms)) (hkw : PK X kws (tL C W mk))
    (hall : (backToKw pos (keywordEach kws X.env)).all (·.1.isSome) = true) (hks : (backToKw pos (keywordEach kws X.env)).filterMap (·.1) = ks) (hno : (backToKw pos (keywordEach kws X.env)).any (·.1.isNone) = false)
    (hd : (x == ("__debug__" : Str)) = false) (hs : noStars (e :: es) = true) : PE X (.Call (.Name x p) (e :: es) kws pos) (tE C W (mcallN F n i ks.length gD ms mk)) := by
  obtain ⟨f, fd, ps, g, gV, e1, e2, G, b, r⟩ := c.ex
  rw [← hK] at e2 G b
  exact ev_callN G (hr.weak (of_decide_eq_true hj)) hg e1 e2 b r hx ha hkw hall hks hno hd hs
theorem ev_append (hK : X.K = C.K) (ho : PE X o (tE C W mo)) (ha : PE X e (tE C W ma)) (hb : baseOk o = true) (hs : notStar e = true) (hl : (apos.endLine == cpos.line) = true) :
    PE X (.Call (.Attribute o "append" apos) [e] [] cpos) (tE C W (mmeth isLst fAppend mo (mcons ma mnil))) :=
  ev_meth1 PySem.F.plainAttrs_list PySem.F.slot_list_append PySem.F.type_list_append mt_app (isLst_ty hK) ho (evl_cons ha evl_nil hs) hb hs hl
theorem ev_pop (hK : X.K = C.K) (ho : PE X o (tE C W mo)) (ha : PE X e (tE C W ma)) (hb : baseOk o = true) (hs : notStar e = true) (hl : (apos.endLine == cpos.line) = true) :
    PE X (.Call (.Attribute o "pop" apos) [e] [] cpos) (tE C W (mmeth isLst fPop mo (mcons ma mnil))) :=
  ev_meth1 PySem.F.plainAttrs_list PySem.F.slot_list_pop PySem.F.type_list_pop mt_popI (isLst_ty hK) ho (evl_cons ha evl_nil hs) hb hs hl
theorem ev_extend (hK : X.K = C.K) (ho : PE X o (tE C W mo)) (ha : PE X e (tE C W ma)) (hb : baseOk o = true) (hs : notStar e = true) (hl : (apos.endLine == cpos.line) = true) :
    PE X (.Call (.Attribute o "extend" apos) [e] [] cpos) (tE C W (mmeth isLst fExtend mo (mcons ma mnil))) :=
  ev_meth1 PySem.F.plainAttrs_list PySem.F.slot_list_extend PySem.F.type_list_extend mt_ext (isLst_ty hK) ho (evl_cons ha evl_nil hs) hb hs hl
theorem ev_join (hK : X.K = C.K) (ho : PE X o (tE C W mo)) (ha : PE X e (tE C W ma)) (hb : baseOk o = true) (hs : notStar e = true) (hl : (apos.endLine == cpos.line) = true) :
    PE X (.Call (.Attribute o "join" apos) [e] [] cpos) (tE C W (mmeth isStr fJoin mo (mcons ma mnil))) :=
  ev_meth1 PySem.F.plainAttrs_str PySem.F.slot_str_join PySem.F.type_str_join (mt_joinS hK) isStr_ty ho (evl_cons ha evl_nil hs) hb hs hl
theorem ev_rng1 (hm : X.mg "range" = none) (hg : X.env.kindOf "range" = some .globalImplicit) (ha : PE X a (tE C W ma)) (hs : notStar a = true) {tg : Expr} : PI X tg (.Call (.Name "range" p) [a] [] q) (tI C W (irng irange1 (mcons ma mnil))) :=
  evi_range1 hg hm (evl_cons ha evl_nil hs) hs
theorem ev_rng2 (hm : X.mg "range" = none) (hg : X.env.kindOf "range" = some .globalImplicit) (ha : PE X a (tE C W ma)) (hb : PE X b (tE C W mb)) (hs : notStar a = true) (hs2 : notStar b = true) {tg : Expr} : PI X tg (.Call (.Name "range" p) [a, b] [] q) (tI C W (irng irange2 (mcons ma (mcons mb mnil)))) :=
  evi_range2 hg hm (evl_cons ha (evl_cons hb evl_nil hs2) hs) hs hs2
theorem fn_ok {C : Ctx} {CX : CXT} {P : Program} {w : World} {mg : Str → Option Value} {base : Heap} {k : Nat} {f : Addr} {x qual : Str} {params : Arguments} {body : List Stmt} {scope : Scope} {dvs : List V} {kws : List (Str × V)} {fd : FuncData} {N ps : List Str} {m : MS} {nN nP : Nat} {F : FunT}
    (FD : FunD C.K x qual params body scope dvs kws f fd) (S : FnScope N ps scope) (hN : N.length = nN) (hP : ps.length = nP) (hF : F = runB nN m)
    (hb : ∀ (cdv : Value) (A : Around) (outer : List PySem.Env) (s : Shared) (H : Hp) (E : XK), RoomG k (A.deeper (envOfC qual scope s.heap.objs.size f cdv)) →
      PSs (cxOf CX P w C.K mg base N qual scope f cdv A outer s H E) body (tS C (fun c d _ H => E c d H) m)) : FnG P w C.K mg base CX (k + 1) f fd ps (spM C nP F) := by
  subst hN; subst hP; subst hF
  exact fn_sound FD S hb
theorem yes_t (σ : L2.St) (H : Hp) (Q : Bool → Hp → Prop) (h : tT C W0 yes σ H Q) : tYes σ H Q := by
  obtain ⟨ρ, env, hd, er, sh, p⟩ := h
  exact p.here sh rfl
/-- a local name (k: it is a cell, in the def's own frame) -/
def locB (sc : Scope) (x : Str) : Bool := match sc.names.lookup x with
  | some .local => true
  | _ => false
def cellB (sc : Scope) (x : Str) : Bool := match sc.names.lookup x with
  | some .cell => true
  | _ => false
theorem evg_n {y : Str} (hN : X.N.Nodup) (hi : X.N[i]? = some y) (hl : locB X.env.scope y = true) : PG X (.Name y pos) (tG C [i] (gname i)) := by
  have h : X.env.scope.names.lookup y = some .local := by
    unfold locB at hl
    split at hl
    · assumption
    · cases hl
  exact evg_name (pg_name hN hi (.inl h) (.inr h))
theorem evg_c {y : Str} (hN : X.N.Nodup) (hi : X.N[i]? = some y) (hl : cellB X.env.scope y = true) (hf : X.fn y = true) : PG X (.Name y pos) (tG C [i] (gname i)) := by
  have h : X.env.scope.names.lookup y = some .cell := by
    unfold cellB at hl
    split at hl
    · assumption
    · cases hl
  exact evg_name (pg_name hN hi (.inr h) (.inl hf))
theorem own_cx {CX : CXT} {P : Program} {w : World} {K : PySem.W.Frag} {mg : Str → Option Value} {base : Heap} {N : List Str} {qual : Str} {scope : Scope} {f : Addr} {cd : Value} {A : Around} {outer : List PySem.Env} {s : Shared} {H : Hp} {E : XK} :
    PassesOwn (model P w) (cxOf CX P w K mg base N qual scope f cd A outer s H E).A (cxOf CX P w K mg base N qual scope f cd A outer s H E).env (cxOf CX P w K mg base N qual scope f cd A outer s H E).xe :=
  passes_of (X := cxOf CX P w K mg base N qual scope f cd A outer s H E) (K := fun e s'' => CX outer H s E e s'') rfl
end
end EV


/-! EvP: from what the top has written to the promises. -/
namespace EV
open PySem PySem.Spec PyProof.Rows L2
section
variable {P : Program} {w : World} {K : PySem.W.Frag} {mg : Str → Option Value} {base : Heap} {x : Str} {st : Stmt} {f T E Dk : Addr} {oc dc pm cd ct kV : Value} {od an : Option Addr} {osl : Array (Option Value)} {C : Ctx} {fd : FuncData} {CX : CXT} {k n : Nat} {F : FunT} {ps : List Str}
theorem fund0 (l : K.lookup f = some ⟨oc, od, .func (PySem.W.fnOf x x (defArgs st) (defBody st) (defScope st) .none kV dc pm an cd ct), osl⟩) (c : PySem.W.codeIn K cd x = true) (k : PySem.W.keepIn K (.ref f) = true) :
    FunD K x x (defArgs st) (defBody st) (defScope st) [] [] f (PySem.W.fnOf x x (defArgs st) (defBody st) (defScope st) .none kV dc pm an cd ct) :=
  ⟨⟨oc, od, .none, kV, dc, pm, an, cd, ct, osl, rfl, l, c, .inl ⟨rfl, rfl⟩, .inl rfl⟩, k⟩
/-- positional defaults -/
theorem fund1 {o : Obj} {its : List Value} {m : Nat} {dvs : List V} (l : K.lookup f = some ⟨oc, od, .func (PySem.W.fnOf x x (defArgs st) (defBody st) (defScope st) (.ref T) kV dc pm an cd ct), osl⟩) (c : PySem.W.codeIn K cd x = true) (k : PySem.W.keepIn K (.ref f) = true)
    (lT : K.lookup T = some o) (oT : o.data = .seq its.toArray m) (r : Vals dvs its) (hn : dvs ≠ []) :
    FunD K x x (defArgs st) (defBody st) (defScope st) dvs [] f (PySem.W.fnOf x x (defArgs st) (defBody st) (defScope st) (.ref T) kV dc pm an cd ct) :=
  ⟨⟨oc, od, .ref T, kV, dc, pm, an, cd, ct, osl, rfl, l, c, .inr ⟨hn, T, o, its, m, rfl, lT, oT, r⟩, .inl rfl⟩, k⟩
/-- .. and by keyword only -/
theorem fund2 {o : Obj} {its : List Value} {m : Nat} {dvs : List V} {kws : List (Str × V)} (l : K.lookup f = some ⟨oc, od, .func (PySem.W.fnOf x x (defArgs st) (defBody st) (defScope st) (.ref T) (.ref Dk) dc pm an cd ct), osl⟩) (c : PySem.W.codeIn K cd x = true) (k : PySem.W.keepIn K (.ref f) = true)
    (lT : K.lookup T = some o) (oT : o.data = .seq its.toArray m) (r : Vals dvs its) (hn : dvs ≠ []) (hk : ∀ q ∈ kws, ∃ u, PySem.W.nsIn K Dk q.1 = some (some u) ∧ RelV q.2 u) :
    FunD K x x (defArgs st) (defBody st) (defScope st) dvs kws f (PySem.W.fnOf x x (defArgs st) (defBody st) (defScope st) (.ref T) (.ref Dk) dc pm an cd ct) :=
  ⟨⟨oc, od, .ref T, .ref Dk, dc, pm, an, cd, ct, osl, rfl, l, c, .inr ⟨hn, T, o, its, m, rfl, lT, oT, r⟩, .inr ⟨Dk, rfl, hk⟩⟩, k⟩
theorem callOk0 {qual : Str} {params : Arguments} {body : List Stmt} {scope : Scope} {dvs : List V} {kws : List (Str × V)} (FD : FunD C.K x qual params body scope dvs kws f fd) (hm : mg x = some (.ref f)) (G : FnG P w C.K mg base CX k f fd ps (spM C n F)) (b : Binds C.K fd ps []) : CallOk C P w mg base CX k x n F [] :=
  ⟨f, fd, ps, [], [], hm, FD.kp, G, b, .nil, fun _ _ => RelL.nil⟩
theorem callOkD {qual : Str} {params : Arguments} {body : List Stmt} {scope : Scope} {dvs : List V} {kws : List (Str × V)} {ws : List V} {dd : List D} (FD : FunD C.K x qual params body scope dvs kws f fd) (hm : mg x = some (.ref f)) (G : FnG P w C.K mg base CX k f fd ps (spM C n F))
    (b : ∃ ds, Vals ws ds ∧ Binds C.K fd ps ds) (r : ∀ ρ H, RelL C ρ H dd ws) : CallOk C P w mg base CX k x n F dd := by
  obtain ⟨ds, v, b⟩ := b
  exact ⟨f, fd, ps, ws, ds, hm, FD.kp, G, b, v, r⟩
theorem callKwD {qual : Str} {params : Arguments} {body : List Stmt} {scope : Scope} {dvs : List V} {kws : List (Str × V)} {i : Nat} {ks : List Str} {gD : List D → List D → List D} {gV : List V → List V → List V} {g : List Value → List Value → List Value → List Value → List Value} (FD : FunD C.K x qual params body scope dvs kws f fd) (hm : mg x = some (.ref f)) (G : FnG P w C.K mg base CX k f fd ps (spM C n F))
    (b : ∃ its mv : List Value, KBn C.K fd ps i ks (fun us ws => g us its mv ws) gV) (r : ∀ ρ H ds vs es zs, RelL C ρ H ds vs → RelL C ρ H es zs → RelL C ρ H (gD ds es) (gV vs zs)) : CallKw C P w mg base CX k x n F i ks gD := by
  obtain ⟨its, mv, b⟩ := b
  exact ⟨f, fd, ps, _, gV, hm, FD.kp, G, b, r⟩
theorem gval_str {z : Str} {t : Nat} (h : mg x = some (.str z t)) (hz : decide (z.length ≤ 100000) = true) : GVal C mg x (.str z) :=
  ⟨.str z, _, h, ⟨t, rfl⟩, fun _ _ => rel_str (by have := of_decide_eq_true hz; rw [sizeLine_eq]; omega)⟩
theorem gval_int {i : Int} {t : Nat} (h : mg x = some (.int i t)) : GVal C mg x (.int i) := ⟨.int i, _, h, ⟨t, rfl⟩, fun _ _ => rel_int⟩
/-- a tuple of the written part -/
theorem rel_kt {ρ : RhoT} {H : Hp} {o : Obj} {its : List Value} {m : Nat} {xs : List D} {vs : List V} (lT : C.K.lookup T = some o) (hc : o.cls = .type "tuple") (oT : o.data = .seq its.toArray m) (r : Vals vs its) (q : RelL C ρ H xs vs) (hz : decide (xs.length ≤ 1000) = true) : Rel C ρ H (.tup xs) (.ref T) := by
  have h1 := q.length
  have h2 := r.length
  have h3 := of_decide_eq_true hz
  simp only [Rel]
  exact ⟨T, vs, rfl, .inr ⟨o, its.toArray, m, lT, hc, oT, by rw [List.size_toArray, sizeLine_eq]; omega, by simpa using r⟩, q, by rw [sizeLine_eq]; omega⟩
theorem gval_ref {d : D} (h : mg x = some (.ref T)) (r : ∀ ρ H, Rel C ρ H d (.ref T)) : GVal C mg x d := ⟨.ref T, _, h, rfl, r⟩
end
end EV


/-! EvS: running the evaluator by simp. -/
namespace EV
open PySem PySem.Spec PyProof.Rows L2
section
variable {env : Env} {h : Hd} {a b c o : M D} {ms mk : M (List D)} {ta tb : M Bool} {m : Bool} {d : D} {i : Nat} {xs : List D}
@[simp] theorem mc_at : mc d env h = .ok d h := rfl
@[simp] theorem mvar_at (i : Nat) : mvar i env h = (match env[i]? with | some (some d) => .ok d h | _ => .bad) := rfl
@[simp] theorem mnil_at : mnil env h = .ok [] h := rfl
@[simp] theorem mcons_at : mcons a ms env h = (a env h).bind fun x h1 => (ms env h1).bind fun xs h2 => .ok (x :: xs) h2 := rfl
@[simp] theorem mop1_at (f : Op1) : mop1 m f a env h = (a env h).bind fun x h1 => fin m (f x h1) h1 := rfl
@[simp] theorem mop2_at (f : Op2) : mop2 m f a b env h = (a env h).bind fun x h1 => (b env h1).bind fun y h2 => fin m (f x y h2) h2 := rfl
@[simp] theorem mtup_at : mtup ms env h = (ms env h).bind fun xs h1 => if xs.length ≤ sizeLine then .ok (.tup xs) h1 else .bad := rfl
@[simp] theorem mlst_at : mlst m ms env h = (ms env h).bind fun xs h1 => fin m (if xs.length ≤ sizeLine then some (.new xs) else none) h1 := rfl
@[simp] theorem mfun_at (f : OpN) : mfun m f ms env h = (ms env h).bind fun xs h1 => fin m (f xs h1) h1 := rfl
@[simp] theorem mand_at : mand a b env h = (a env h).bind fun x h1 => match truth x h1 with | some true => b env h1 | some false => .ok x h1 | none => .bad := rfl
@[simp] theorem mor_at : mor a b env h = (a env h).bind fun x h1 => match truth x h1 with | some true => .ok x h1 | some false => b env h1 | none => .bad := rfl
@[simp] theorem mnot_at : mnot a env h = (a env h).bind fun x h1 => match truth x h1 with | some k => .ok (.bl !k) h1 | none => .bad := rfl
@[simp] theorem mandT_at : mandT ta tb env h = (ta env h).bind fun c h1 => if c then tb env h1 else .ok false h1 := rfl
@[simp] theorem morT_at : morT ta tb env h = (ta env h).bind fun c h1 => if c then .ok true h1 else tb env h1 := rfl
@[simp] theorem mnotT_at : mnotT ta env h = (ta env h).bind fun c h1 => .ok (!c) h1 := rfl
@[simp] theorem mtru_at : mtru a env h = (a env h).bind fun x h1 => match truth x h1 with | some k => .ok k h1 | none => .bad := rfl
@[simp] theorem mbl_at : mbl a env h = (a env h).bind fun x h1 => match x with | .bl k => .ok k h1 | _ => .bad := rfl
@[simp] theorem mite_at : mite ta a b env h = (ta env h).bind fun k h1 => if k then a env h1 else b env h1 := rfl
@[simp] theorem mchain_at (f g : Op2) : mchain f g a b c env h = (a env h).bind fun x h1 => (b env h1).bind fun y h2 => match f x y h2 with
  | some (.v (.bl true)) => (c env h2).bind fun z h3 => fin false (g y z h3) h3
  | some (.v (.bl false)) => .ok (.bl false) h2
  | _ => .bad := rfl
@[simp] theorem mcall_at (F : FunT) (n : Nat) (dd : List D) : mcall F n dd ms env h = (ms env h).bind fun xs h1 => if (xs ++ dd).length = n then F (xs ++ dd) h1 else .bad := rfl
@[simp] theorem mcallN_at (F : FunT) (n i j : Nat) (g : List D → List D → List D) : mcallN F n i j g ms mk env h = (ms env h).bind fun xs h1 => (mk env h1).bind fun zs h2 => if xs.length = i ∧ zs.length = j ∧ (g xs zs).length = n then F (g xs zs) h2 else .bad := rfl
@[simp] theorem mmeth_at (g : D → Hd → Bool) (f : OpM) : mmeth g f o ms env h = (o env h).bind fun x h1 => if g x h1 then (ms env h1).bind fun xs h2 => resM (f x xs h2) else .bad := rfl
@[simp] theorem msl_at (lo hi : M (Option Int)) : msl m a lo hi env h = (a env h).bind fun x h1 => (lo env h1).bind fun l h2 => (hi env h2).bind fun u h3 => fin m (oSl x l u h3) h3 := rfl
@[simp] theorem mpart0 : mpart none env h = .ok none h := rfl
@[simp] theorem mpart1 : mpart (some a) env h = (a env h).bind fun x h1 => match x with | .int i => .ok (some i) h1 | _ => .bad := rfl
@[simp] theorem mdic0_at : mdic0 env h = .ok (.dic [] []) h := rfl
@[simp] theorem iseq_at : iseq a env h = (a env h).bind fun x h1 => match itemsOf x with | some xs => .ok xs h1 | none => .bad := rfl
@[simp] theorem irng_at (f : List D → Option (List D)) : irng f ms env h = (ms env h).bind fun xs h1 => match f xs with | some ys => .ok ys h1 | _ => .bad := rfl
@[simp] theorem mcomp_at (own : List Nat) (it : MI) (g : MG) (cond : M Bool) (elt : M D) : mcomp m own it g cond elt env h = (it env h).bind fun items h1 =>
  match compLoop g cond elt (wipeE env own) items [] h1 with
  | some (acc, h2) => fin m (some (.new acc)) h2
  | none => .bad := rfl
@[simp] theorem fin_none : fin m none h = .bad := rfl
@[simp] theorem fin_v : fin m (some (.v d)) h = .ok d h := rfl
@[simp] theorem fin_newF : fin false (some (.new xs)) h = .ok (.lst xs) h := rfl
@[simp] theorem fin_newT : fin true (some (.new xs)) h = .ok (.ref h.length) (h ++ [.lst xs]) := rfl
@[simp] theorem resM_some (h' : Hd) : resM (some (d, h')) = .ok d h' := rfl
@[simp] theorem resM_none : resM none = .bad := rfl
@[simp] theorem isLst_ref (n : Nat) : isLst (.ref n) h = (lstOf (.ref n) h).isSome := rfl
@[simp] theorem lstOf_ref (n : Nat) : lstOf (.ref n) h = (match h[n]? with | some (.lst xs) => some xs | _ => none) := rfl
@[simp] theorem lstOf_lst : lstOf (.lst xs) h = some xs := rfl
@[simp] theorem seqOf_tup : seqOf (.tup xs) h = some xs := rfl
@[simp] theorem seqOf_lst : seqOf (.lst xs) h = some xs := rfl
@[simp] theorem seqOf_ref (n : Nat) : seqOf (.ref n) h = lstOf (.ref n) h := rfl
@[simp] theorem seqOf_scr (ns : List Int) : seqOf (.scr ns) h = some (ns.map .int) := rfl
@[simp] theorem truth_bl (k : Bool) : truth (.bl k) h = some k := rfl
@[simp] theorem ofE_at (k : D → MS) : ofE a k env h = (match a env h with | .ok d h1 => k d env h1 | .exc x h1 => some (.exc x, env, h1) | .bad => none) := rfl
@[simp] theorem ofT_at (k : Bool → MS) : ofT ta k env h = (match ta env h with | .ok d h1 => k d env h1 | .exc x h1 => some (.exc x, env, h1) | .bad => none) := rfl
@[simp] theorem sPass_at : sPass env h = some (.nx, env, h) := rfl
@[simp] theorem sExpr_at : sExpr a env h = (match a env h with | .ok _ h1 => some (.nx, env, h1) | .exc x h1 => some (.exc x, env, h1) | .bad => none) := rfl
@[simp] theorem sRet_at : sRet a env h = (match a env h with | .ok d h1 => some (.ret d, env, h1) | .exc x h1 => some (.exc x, env, h1) | .bad => none) := rfl
@[simp] theorem sRetN_at : sRetN env h = some (.ret .non, env, h) := rfl
@[simp] theorem sAsg_at (g : MG) : sAsg a g env h = (match a env h with
  | .ok d h1 => (match g d env h1 with | some (env', h') => some (.nx, env', h') | none => none)
  | .exc x h1 => some (.exc x, env, h1)
  | .bad => none) := rfl
@[simp] theorem sIf_at (s t : MS) : sIf ta s t env h = (match ta env h with | .ok k h1 => if k then s env h1 else t env h1 | .exc x h1 => some (.exc x, env, h1) | .bad => none) := rfl
@[simp] theorem sSeq_at (s t : MS) : sSeq s t env h = (match s env h with | some (.nx, env', h') => t env' h' | r => r) := rfl
@[simp] theorem sFor_at (it : MI) (g : MG) (body : MS) : sFor it g body env h = (match it env h with | .ok items h1 => forLoop g body items env h1 | .exc x h1 => some (.exc x, env, h1) | .bad => none) := rfl
@[simp] theorem forLoop_nil (g : MG) (body : MS) : forLoop g body [] env h = some (.nx, env, h) := rfl
@[simp] theorem forLoop_cons (g : MG) (body : MS) : forLoop g body (d :: xs) env h = (match g d env h with
    | none => none
    | some (env1, h1) => match body env1 h1 with
      | some (.nx, e2, h2) => forLoop g body xs e2 h2
      | some (.ct, e2, h2) => forLoop g body xs e2 h2
      | some (.bk, e2, h2) => some (.nx, e2, h2)
      | r => r) := rfl
@[simp] theorem gname_at (i : Nat) : gname i d env h = some (env.set i (some d), h) := rfl
@[simp] theorem gtup_at (gs : List MG) : gtup gs (.tup xs) env h = if xs.length = gs.length then gtup.go gs xs env h else none := rfl
@[simp] theorem go_nil (ds : List D) : gtup.go [] ds env h = some (env, h) := by unfold gtup.go; rfl
@[simp] theorem go_cons (g : MG) (gs : List MG) (ds : List D) : gtup.go (g :: gs) (d :: ds) env h = (match g d env h with | some (env', h') => gtup.go gs ds env' h' | none => none) := by
  rw [gtup.go]
  try (cases g d env h <;> rfl)
@[simp] theorem gstar_at (gs : List MG) : gstar gs (.tup xs) env h = if gs.length ≤ xs.length + 1 ∧ 0 < gs.length then gtup.go gs (xs.take (gs.length - 1) ++ [.lst (xs.drop (gs.length - 1))]) env h else none := rfl
@[simp] theorem gsub_at (mo mi : M D) : gsub mo mi d env h = (match mo env h with
  | .ok (.ref n) h1 => match mi env h1 with
    | .ok (.int k) h2 => match h2[n]? with
      | some (.lst xs) => if 0 ≤ k ∧ k < xs.length then some (env, h2.set n (.lst (xs.set k.toNat d))) else none
      | _ => none
    | _ => none
  | _ => none) := rfl
@[simp] theorem runB_at (n : Nat) (s : MS) (ds : List D) : runB n s ds h = (match s (startE n ds) h with
  | some (.nx, _, h) => .ok .non h
  | some (.ret d, _, h) => .ok d h
  | some (.exc x, _, h) => .exc x h
  | _ => .bad) := rfl
@[simp] theorem startE_at (n : Nat) (ds : List D) : startE n ds = ds.map some ++ List.replicate (n - ds.length) none := rfl
@[simp] theorem wipeE_nil : wipeE env [] = env := rfl
@[simp] theorem wipeE_cons (v : Nat) (vs : List Nat) : wipeE env (v :: vs) = (wipeE env vs).set v none := rfl
@[simp] theorem isi_at (t : Ty) : fIsi [d, .ty t] h = (tyOf d h).map fun n => .v (.bl (isSub n t)) := rfl
@[simp] theorem len_at : fLen [d] h = (lenOf d h).map fun n => .v (.int (n : Nat)) := by
  show Option.map (fun n => OV.v (D.int n)) (do let a ← lenOf d h; pure (a : Int)) = _
  cases lenOf d h <;> rfl
@[simp] theorem all_lst : fAll [.lst xs] h = (blsOf xs).map fun bs => .v (.bl (bs.all id)) := rfl
@[simp] theorem tuple_at : fTuple [d] h = (seqOf d h).map fun xs => .v (.tup xs) := rfl
@[simp] theorem list_at : fList [d] h = (seqOf d h).map .new := rfl
@[simp] theorem isN_eq (x y : D) : oEq x y h = (eqv x y h).map fun b => .v (.bl b) := rfl
@[simp] theorem isN_ne (x y : D) : oNe x y h = (eqv x y h).map fun b => .v (.bl !b) := rfl
@[simp] theorem isN_in (x y : D) : oIn x y h = (isIn x y h).map fun b => .v (.bl b) := rfl
@[simp] theorem isN_notIn (x y : D) : oNotIn x y h = (isIn x y h).map fun b => .v (.bl !b) := rfl
@[simp] theorem cmp_int (p : Int → Int → Bool) (i j : Int) : oCmp p (.int i) (.int j) h = some (.v (.bl (p i j))) := rfl
@[simp] theorem add_int (i j : Int) : oAdd (.int i) (.int j) h = some (.v (.int (i + j))) := rfl
@[simp] theorem sub_int (i j : Int) : oSub (.int i) (.int j) h = some (.v (.int (i - j))) := rfl
@[simp] theorem mod_int (i j : Int) : oMod (.int i) (.int j) h = if 0 < j then some (.v (.int (i % j))) else none := rfl
@[simp] theorem fdiv_int (i j : Int) : oFdiv (.int i) (.int j) h = if 0 < j ∧ j < 1073741824 then some (.v (.int (i / j))) else none := rfl
@[simp] theorem mul_int (i j : Int) : oMul (.int i) (.int j) h = if (-(2 ^ 64) < i ∧ i < 2 ^ 64) ∨ (-(2 ^ 64) < j ∧ j < 2 ^ 64) then some (.v (.int (i * j))) else none := rfl
@[simp] theorem mul_lst (a : List D) (k : Int) : oMul (.lst a) (.int k) h = if -(2 ^ 63) ≤ k ∧ k < 2 ^ 63 ∧ a.length * k.toNat ≤ sizeLine then some (.new (List.replicate k.toNat a).flatten) else none := rfl
@[simp] theorem add_lst (a b : List D) : oAdd (.lst a) (.lst b) h = if a.length + b.length ≤ sizeLine then some (.new (a ++ b)) else none := rfl
@[simp] theorem add_refL (n : Nat) (b : List D) : oAdd (.ref n) (.lst b) h = (match lstOf (.ref n) h with
  | some a => if a.length + b.length ≤ sizeLine then some (.new (a ++ b)) else none
  | none => none) := by
  show (match lstOf (.ref n) h, lstOf (.lst b) h with
    | some a, some b => if a.length + b.length ≤ sizeLine then some (OV.new (a ++ b)) else none
    | _, _ => none) = _
  cases lstOf (.ref n) h <;> rfl
@[simp] theorem app_at (n : Nat) (y : D) : fAppend (.ref n) [y] h = (match h[n]? with
  | some (.lst xs) => if xs.length < sizeLine then some (.non, h.set n (.lst (xs ++ [y]))) else none
  | _ => none) := rfl
@[simp] theorem join_at (a : Str) : fJoin (.str a) [d] h = (match seqOf d h with
  | some ys => match strsOf ys with
    | some zs => if (zs.map (·.length)).sum + zs.length * a.length ≤ 16777216 then some (.str (Str.join a zs), h) else none
    | none => none
  | none => none) := rfl
@[simp] theorem isStr_str (z : Str) : isStr (.str z) h = true := rfl
@[simp] theorem add_tup (a b : List D) : oAdd (.tup a) (.tup b) h = if a.length + b.length ≤ sizeLine then some (.v (.tup (a ++ b))) else none := rfl
@[simp] theorem add_str (a b : Str) : oAdd (.str a) (.str b) h = if a.length + b.length ≤ sizeLine then some (.v (.str (a ++ b))) else none := rfl
@[simp] theorem int_bl (b : Bool) : fInt [.bl b] h = some (.v (.int (if b then 1 else 0))) := rfl
@[simp] theorem int_int (i : Int) : fInt [.int i] h = some (.v (.int i)) := rfl
@[simp] theorem sl_tup (lo hi : Option Int) : oSl (.tup xs) lo hi h = some (.v (.tup (cutD xs lo hi))) := rfl
@[simp] theorem sl_lst (lo hi : Option Int) : oSl (.lst xs) lo hi h = some (.new (cutD xs lo hi)) := rfl
@[simp] theorem sl_str (s : Str) (lo hi : Option Int) : oSl (.str s) lo hi h = some (.v (.str (cutS s lo hi))) := rfl
@[simp] theorem pow_int (i j : Int) : oPow (.int i) (.int j) h = if 0 ≤ j ∧ j ≤ 1000000 ∧ i.natAbs < 2 ^ 64 then some (.v (.int (i ^ j.toNat))) else none := rfl
@[simp] theorem neg_int (i : Int) : oNeg (.int i) h = some (.v (.int (-i))) := rfl
@[simp] theorem ix_tup (i : Int) : oIx (.tup xs) (.int i) h = (atI xs i).map .v := rfl
@[simp] theorem ix_lst (i : Int) : oIx (.lst xs) (.int i) h = (atI xs i).map .v := rfl
@[simp] theorem ix_ref (n : Nat) (i : Int) : oIx (.ref n) (.int i) h = (match lstOf (.ref n) h with | some xs => (atI xs i).map .v | none => none) := rfl
@[simp] theorem ix_scr (ns : List Int) (i : Int) : oIx (.scr ns) (.int i) h = (atI (ns.map D.int) i).map .v := rfl
end
/-- a comprehension whose element leaves the heap alone -/
theorem comp_map {i : Nat} {elt : M D} {env : Env} {h : Hd} {f : D → D} : ∀ {xs acc : List D}, (∀ x ∈ xs, elt (env.set i (some x)) h = .ok (f x) h) → compLoop (gname i) yes elt env xs acc h = some (acc ++ xs.map f, h)
  | [], acc, _ => by simp [compLoop]
  | x :: xs, acc, hx => by
    unfold compLoop
    simp only [gname_at, yes]
    rw [hx x List.mem_cons_self]
    simp only
    rw [comp_map fun y hy => hx y (List.mem_cons_of_mem _ hy)]
    simp
theorem bls_map {α : Type} {f : α → Bool} : ∀ {xs : List α}, blsOf (xs.map fun x => .bl (f x)) = some (xs.map f)
  | [] => rfl
  | x :: xs => by
    show (blsOf (xs.map fun x => .bl (f x))).map (f x :: ·) = _
    rw [bls_map]; rfl
theorem len_le {n : Nat} (h : n ≤ 1000) : n ≤ sizeLine := by rw [sizeLine_eq]; omega
end EV


/-! EvU: what the draws' contracts lean on. -/
namespace EV
open PySem PySem.Spec PyProof.Rows L2
theorem at0 {α : Type} {x : α} {xs : List α} : atI (x :: xs) 0 = some x := by
  unfold atI ixN
  simp
theorem at1 {α : Type} {x y : α} {xs : List α} : atI (x :: y :: xs) 1 = some y := by
  unfold atI ixN
  rw [if_pos (by decide), if_pos (by simp only [List.length_cons]; omega)]
  rfl
theorem at_in {α : Type} {xs : List α} {i : Int} (h0 : 0 ≤ i) (h1 : i < xs.length) : ∃ y, atI xs i = some y ∧ y ∈ xs := by
  unfold atI ixN
  rw [if_pos h0, if_pos h1]
  have hj : i.toNat < xs.length := by omega
  exact ⟨xs[i.toNat], by simp [hj], List.getElem_mem hj⟩
/-- the draws' state stands at n -/
def RngAt (h : Hd) (n : Nat) : Prop := ∃ a b : Int, h[n]? = some (.lst [.int a, .int b]) ∧ 0 ≤ a
/-- draws: nothing else changes -/
structure Stp (n : Nat) (h h' : Hd) : Prop where
  rng : RngAt h' n
  len : h.length ≤ h'.length
  same : ∀ j : Nat, j < h.length → j ≠ n → h'[j]? = h[j]?
theorem Stp.refl {n : Nat} {h : Hd} (r : RngAt h n) : Stp n h h := ⟨r, Nat.le_refl _, fun _ _ _ => rfl⟩
theorem Stp.trans {n : Nat} {h h' h'' : Hd} (x : Stp n h h') (y : Stp n h' h'') : Stp n h h'' :=
  ⟨y.rng, Nat.le_trans x.len y.len, fun j hj hn => (y.same j (Nat.lt_of_lt_of_le hj x.len) hn).trans (x.same j hj hn)⟩
theorem RngAt.lt {h : Hd} {n : Nat} (r : RngAt h n) : n < h.length := by
  obtain ⟨a, b, e, _⟩ := r
  exact (List.getElem?_eq_some_iff.mp e).1
theorem Stp.set {n : Nat} {h : Hd} (hn : n < h.length) {a b : Int} (ha : 0 ≤ a) : Stp n h (h.set n (.lst [.int a, .int b])) :=
  ⟨⟨a, b, List.getElem?_set_self hn, ha⟩, by simp, fun j _ hj => List.getElem?_set_ne (Ne.symm hj)⟩
theorem Stp.push {n : Nat} {h : Hd} (r : RngAt h n) (o : MO) : Stp n h (h ++ [o]) := by
  obtain ⟨a, b, e, ha⟩ := r
  have hn := (List.getElem?_eq_some_iff.mp e).1
  exact ⟨⟨a, b, by rw [List.getElem?_append_left hn]; exact e, ha⟩, by simp, fun j hj _ => List.getElem?_append_left hj⟩
/-- a comprehension whose elements draw: J holds in between, P of each -/
theorem comp_st {i : Nat} {elt : M D} {env : Env} {J : Hd → Prop} {P : D → Prop} : ∀ {xs acc : List D} {h : Hd}, (∀ x ∈ xs, ∀ h, J h → ∃ y h', elt (env.set i (some x)) h = .ok y h' ∧ J h' ∧ P y) → J h →
    ∃ ys h', compLoop (gname i) yes elt env xs acc h = some (acc ++ ys, h') ∧ J h' ∧ (∀ y ∈ ys, P y) ∧ ys.length = xs.length
  | [], acc, h, _, hj => ⟨[], h, by simp [compLoop], hj, (fun _ z => nomatch z), rfl⟩
  | x :: xs, acc, h, he, hj => by
    obtain ⟨y, h1, e1, j1, p1⟩ := he x List.mem_cons_self h hj
    obtain ⟨ys, h2, e2, j2, p2, l2⟩ := comp_st (xs := xs) (acc := acc ++ [y]) (fun z hz => he z (List.mem_cons_of_mem _ hz)) j1
    refine ⟨y :: ys, h2, ?_, j2, fun z hz => ?_, by simp [l2]⟩
    · unfold compLoop
      simp only [gname_at, yes]
      rw [e1]
      simp only
      rw [e2]
      simp
    · rcases List.mem_cons.mp hz with rfl | hz
      · exact p1
      · exact p2 z hz
/-- .. J by the turn -/
theorem comp_stI {i : Nat} {elt : M D} {env : Env} {J : Nat → Hd → Prop} {P : D → Prop} : ∀ {xs acc : List D} {h : Hd}, (∀ k, k < xs.length → ∀ x h, J k h → ∃ y h', elt (env.set i (some x)) h = .ok y h' ∧ J (k + 1) h' ∧ P y) → J 0 h →
    ∃ ys h', compLoop (gname i) yes elt env xs acc h = some (acc ++ ys, h') ∧ J xs.length h' ∧ (∀ y ∈ ys, P y) ∧ ys.length = xs.length := by
  intro xs
  induction xs generalizing J with
  | nil => exact fun {acc h} _ hj => ⟨[], h, by simp [compLoop], hj, (fun _ z => nomatch z), rfl⟩
  | cons x xs ih =>
    intro acc h he hj
    obtain ⟨y, h1, e1, j1, p1⟩ := he 0 (Nat.succ_pos _) x h hj
    obtain ⟨ys, h2, e2, j2, p2, l2⟩ := ih (J := fun k => J (k + 1)) (acc := acc ++ [y]) (fun k hk => he (k + 1) (Nat.succ_lt_succ hk)) j1
    refine ⟨y :: ys, h2, ?_, j2, fun z hz => ?_, by simp [l2]⟩
    · unfold compLoop
      simp only [gname_at, yes]
      rw [e1]
      simp only
      rw [e2]
      simp
    · rcases List.mem_cons.mp hz with rfl | hz
      · exact p1
      · exact p2 z hz
theorem range_ok {n : Nat} (h : n < 1000000) : irange1 [.int (n : Int)] = some ((List.range n).map fun k : Nat => D.int (k : Int)) := by
  show (if _ then _ else _) = _
  rw [if_pos (by omega), Int.toNat_natCast]
theorem comp_mapm {α : Type} {i : Nat} {elt : M D} {env : Env} {h : Hd} {g f : α → D} : ∀ {l : List α} {acc : List D}, (∀ x ∈ l, elt (env.set i (some (g x))) h = .ok (f x) h) → compLoop (gname i) yes elt env (l.map g) acc h = some (acc ++ l.map f, h)
  | [], acc, _ => by simp [compLoop]
  | x :: xs, acc, hx => by
    rw [List.map_cons]
    unfold compLoop
    simp only [gname_at, yes]
    rw [hx x List.mem_cons_self]
    simp only
    rw [comp_mapm fun y hy => hx y (List.mem_cons_of_mem _ hy)]
    simp
/-- data that nobody changes -/
def Fz (v : D) : Prop := ∃ p, toPy v = some p
theorem Fz.ty {v : D} (z : Fz v) : ∃ t, ∀ h, tyOf v h = some t := by
  obtain ⟨p, e⟩ := z
  cases v <;> first | exact ⟨_, fun _ => rfl⟩ | (simp only [toPy] at e; cases e)
theorem fz_all : ∀ {xs : List D} {ps : List PyData}, toPyL xs = some ps → ∀ x ∈ xs, Fz x
  | [], _, _, x, hx => nomatch hx
  | d :: ds, ps, e, x, hx => by
    simp only [toPyL] at e
    split at e
    · cases e
    · rename_i p e1
      split at e
      · cases e
      · rename_i qs e2
        rcases List.mem_cons.mp hx with rfl | hx
        · exact ⟨p, e1⟩
        · exact fz_all e2 x hx
theorem Fz.tup {xs : List D} (z : Fz (.tup xs)) : ∀ x ∈ xs, Fz x := by
  obtain ⟨p, e⟩ := z
  simp only [toPy, Option.map_eq_some_iff] at e
  obtain ⟨ps, e1, _⟩ := e
  exact fz_all e1
/-- data that repr shows in at most k signs, at most d deep -/
def Sh (k d : Nat) (v : D) : Prop := ∃ p, toPy v = some p ∧ p.showable = true ∧ p.shown.length ≤ k ∧ p.depth ≤ d
theorem Sh.fz {k d : Nat} {v : D} (s : Sh k d v) : Fz v := let ⟨p, e, _⟩ := s; ⟨p, e⟩
theorem Sh.mono {k d k' d' : Nat} {v : D} (s : Sh k d v) (hk : k ≤ k') (hd : d ≤ d') : Sh k' d' v := let ⟨p, e, a, b, c⟩ := s; ⟨p, e, a, Nat.le_trans b hk, Nat.le_trans c hd⟩
theorem Sh.bl (b : Bool) : Sh 5 0 (.bl b) := ⟨.bool b, rfl, rfl, by cases b <;> decide +kernel, Nat.le_refl _⟩
theorem Sh.non : Sh 5 0 .non := ⟨.none, rfl, rfl, by decide +kernel, Nat.le_refl _⟩
theorem Sh.str {z : Str} {k : Nat} (hz : z.length ≤ k) (hs : ∀ c ∈ z.cps.toList, c < 16 ^ 8) : Sh (10 * k + 2) 0 (.str z) :=
  ⟨.str z, rfl, rfl, by
    simp only [PyData.shown]
    have := StrLaws.reprText_len z hs
    omega, by simp only [PyData.depth]; exact Nat.le_refl _⟩
theorem sh_all {k d : Nat} : ∀ {xs : List D}, (∀ x ∈ xs, Sh k d x) → ∃ ps, toPyL xs = some ps ∧ PyData.showableAll ps = true ∧ ((PyData.shownAll ps).map (·.length)).sum ≤ xs.length * k ∧ PyData.depthAll ps ≤ d ∧ (PyData.shownAll ps).length = xs.length
  | [], _ => ⟨[], rfl, rfl, Nat.zero_le _, by simp only [PyData.depthAll]; exact Nat.zero_le _, rfl⟩
  | x :: xs, h => by
    obtain ⟨p, e, a, b, c⟩ := h x List.mem_cons_self
    obtain ⟨ps, e2, a2, b2, c2, l2⟩ := sh_all (fun y hy => h y (List.mem_cons_of_mem _ hy))
    refine ⟨p :: ps, by simp only [toPyL, e, e2], by simp only [PyData.showableAll, a, a2]; rfl, ?_, ?_, by simp only [PyData.shownAll, List.length_cons, l2]⟩
    · simp only [PyData.shownAll, List.map_cons, List.sum_cons, List.length_cons, Nat.add_mul]
      omega
    · simp only [PyData.depthAll]
      exact Nat.max_le.mpr ⟨c, c2⟩
theorem Sh.lst {k d n : Nat} {xs : List D} (h : ∀ x ∈ xs, Sh k d x) (hn : xs.length ≤ n) : Sh (n * (k + 2) + 3) (d + 1) (.lst xs) := by
  obtain ⟨ps, e, a, b, c, l⟩ := sh_all h
  refine ⟨.list ps, by simp only [toPy, e, Option.map_some], by simp only [PyData.showable, a], ?_, by simp only [PyData.depth]; omega⟩
  simp only [PyData.shown]
  have h1 := listText_len_le (PyData.shownAll ps)
  have h2 := Nat.mul_le_mul_right (k + 2) hn
  rw [l] at h1
  rw [Nat.mul_add] at h2
  omega
theorem Sh.tup {k d n : Nat} {xs : List D} (h : ∀ x ∈ xs, Sh k d x) (hn : xs.length ≤ n) : Sh (n * (k + 2) + 3) (d + 1) (.tup xs) := by
  obtain ⟨ps, e, a, b, c, l⟩ := sh_all h
  refine ⟨.tuple ps, by simp only [toPy, e, Option.map_some], by simp only [PyData.showable, a], ?_, by simp only [PyData.depth]; omega⟩
  simp only [PyData.shown]
  have h1 := tupleText_len_le (PyData.shownAll ps)
  have h2 := Nat.mul_le_mul_right (k + 2) hn
  rw [l] at h1
  rw [Nat.mul_add] at h2
  omega
theorem repr_lst {k d : Nat} {xs : List D} (s : Sh k d (.lst xs)) (hk : k ≤ 16777216) (hd : d ≤ 60) : ∃ z, ∀ h, fRepr [.lst xs] h = some (.v (.str z)) := by
  obtain ⟨p, e, a, b, c⟩ := s
  refine ⟨p.shown, fun h => ?_⟩
  have e' : toPyT h (.lst xs) = some p := e
  simp only [fRepr, e']
  rw [if_pos ⟨a, by rw [sizeLine_eq]; omega, by omega⟩]
theorem rng2 : irange1 [.int 2] = some [.int 0, .int 1] := by
  exact range_ok (n := 2) (by decide)
/-- a short text of plain signs -/
structure Sm (k : Nat) (z : Str) : Prop where
  len : z.length ≤ k
  sig : ∀ c ∈ z.cps.toList, c < 16 ^ 8
theorem Sm.sh {k : Nat} {z : Str} (s : Sm k z) : Sh (10 * k + 2) 0 (.str z) := Sh.str s.len s.sig
theorem Sm.mono {j k : Nat} {z : Str} (s : Sm j z) (h : j ≤ k) : Sm k z := ⟨Nat.le_trans s.len h, s.sig⟩
theorem Sm.add {j k : Nat} {y z : Str} (s : Sm j y) (t : Sm k z) : Sm (j + k) (y ++ z) :=
  ⟨by rw [len_app]; have := s.len; have := t.len; omega, fun c hc => by
    have e : (y ++ z).cps.toList = y.cps.toList ++ z.cps.toList := Array.toList_append
    rw [e] at hc
    rcases List.mem_append.mp hc with h | h
    · exact s.sig c h
    · exact t.sig c h⟩
theorem Sm.cut {k : Nat} {z : Str} (s : Sm k z) (lo hi : Option Int) : Sm k (cutS z lo hi) :=
  ⟨Nat.le_trans (cutS_length _ _ _) s.len, fun c hc => s.sig c (List.mem_of_mem_drop (List.mem_of_mem_take (by simpa [cutS] using hc)))⟩
theorem Sm.join0 : ∀ {zs : List Str}, (∀ z ∈ zs, Sm 1 z) → Sm zs.length (Str.join "" zs)
  | [], _ => ⟨Nat.le_refl _, fun c hc => by cases hc⟩
  | [x], h => h x List.mem_cons_self
  | x :: y :: r, h => by
    have h1 : Sm (1 + 0 + (y :: r).length) ((x ++ "") ++ Str.join "" (y :: r)) := Sm.add (Sm.add (h x List.mem_cons_self) ⟨Nat.le_refl _, fun c hc => by cases hc⟩) (Sm.join0 fun z hz => h z (List.mem_cons_of_mem _ hz))
    exact h1.mono (by simp only [List.length_cons]; omega)
theorem strs1_of : ∀ {ys : List D}, (∀ y ∈ ys, ∃ z, y = .str z ∧ Sm 1 z) → ∃ zs, strsOf ys = some zs ∧ (∀ z ∈ zs, Sm 1 z) ∧ zs.length = ys.length ∧ (zs.map (·.length)).sum ≤ ys.length
  | [], _ => ⟨[], rfl, (fun _ z => nomatch z), rfl, Nat.le_refl _⟩
  | y :: ys, h => by
    obtain ⟨z, rfl, hz⟩ := h y List.mem_cons_self
    obtain ⟨zs, e, a, l, s⟩ := strs1_of fun y hy => h y (List.mem_cons_of_mem _ hy)
    refine ⟨z :: zs, by simp only [strsOf, e, Option.map_some], fun x hx => ?_, by simp only [List.length_cons, l], ?_⟩
    · rcases List.mem_cons.mp hx with rfl | hx
      · exact hz
      · exact a x hx
    · have := hz.len
      simp only [List.map_cons, List.sum_cons, List.length_cons]
      omega
def smB (k : Nat) (z : Str) : Bool := decide (z.length ≤ k) && z.cps.toList.all fun c => decide (c < 16 ^ 8)
theorem sm_of {k : Nat} {z : Str} (h : smB k z = true) : Sm k z := by
  unfold smB at h
  rw [Bool.and_eq_true, List.all_eq_true] at h
  exact ⟨of_decide_eq_true h.1, fun c hc => of_decide_eq_true (h.2 c hc)⟩
def shB (k d : Nat) (v : D) : Bool := match toPy v with
  | some p => p.showable && (decide (p.shown.length ≤ k) && decide (p.depth ≤ d))
  | none => false
theorem sh_of {k d : Nat} {v : D} (h : shB k d v = true) : Sh k d v := by
  unfold shB at h
  split at h
  · rename_i p e
    rw [Bool.and_eq_true, Bool.and_eq_true] at h
    exact ⟨p, e, h.1, of_decide_eq_true h.2.1, of_decide_eq_true h.2.2⟩
  · cases h
theorem sh_in {k d : Nat} {xs : List D} (h : xs.all (shB k d) = true) {v : D} (hv : v ∈ xs) : Sh k d v := sh_of (List.all_eq_true.mp h v hv)
theorem pow_lt (b : Int) : (b % 2147483629).natAbs < 2 ^ 64 ∧ -(2 ^ 64) < b % 2147483629 ∧ b % 2147483629 < 2 ^ 64 := by omega
end EV


set_option maxHeartbeats 4000000
namespace EV
open PySem PySem.Spec PyProof.Rows L2
def top (i : Nat) : Stmt := PySem.Challenge.pw_evermeant_k11_names_words_places_paths.main.body.getD i (.Pass ⟨0, 0, 0, 0⟩)
def d_CAPITALS : D := (.str "ABCDEFGHIJKLMNOPQRSTUVWXYZ")
def d_LETTERS : D := (.str "abcdefghijklmnopqrstuvwxyz")
def d_MOST_CAPITALS : D := (.int 4)
def d_MOST_LETTERS : D := (.int 8)
def d_MOST_WORDS : D := (.int 6)
def d_STARTS : D := (.tup [(.str "root"), (.str "here"), (.str "there")])
def d_THERE : D := (.str "there")
structure TX (C : Ctx) (mg : Str → Option Value) : Prop where
  z_abs : mg "abs" = none
  z_all : mg "all" = none
  z_bool : mg "bool" = none
  z_divmod : mg "divmod" = none
  z_int : mg "int" = none
  z_isinstance : mg "isinstance" = none
  z_len : mg "len" = none
  z_list : mg "list" = none
  z_max : mg "max" = none
  z_min : mg "min" = none
  z_range : mg "range" = none
  z_repr : mg "repr" = none
  z_str : mg "str" = none
  z_tuple : mg "tuple" = none
  g_CAPITALS : GVal C mg "CAPITALS" d_CAPITALS
  g_LETTERS : GVal C mg "LETTERS" d_LETTERS
  g_MOST_CAPITALS : GVal C mg "MOST_CAPITALS" d_MOST_CAPITALS
  g_MOST_LETTERS : GVal C mg "MOST_LETTERS" d_MOST_LETTERS
  g_MOST_WORDS : GVal C mg "MOST_WORDS" d_MOST_WORDS
  g_STARTS : GVal C mg "STARTS" d_STARTS
  g_THERE : GVal C mg "THERE" d_THERE
def gk_is_path_2_in_macro : List D → List D → List D := fun xs zs => xs ++ ([] ++ zs)
def gk_is_path_1_in_macro : List D → List D → List D := fun xs zs => xs ++ ([(.tup [])] ++ zs)
section
variable {C : Ctx} {P : Program} {w : World} {mg : Str → Option Value} {base : Heap}
abbrev st_is_integer : Stmt := top 10
theorem sc_is_integer : FnScope ["value"] ["value"] (defScope st_is_integer) := ⟨rfl, rfl, rfl, by decide +kernel, rfl, by decide +kernel, by decide +kernel⟩
def m_is_integer : MS := (sRet (mand (mfun false fIsi (mcons (mvar 0) (mcons (mc (.ty .int)) mnil))) (mnot (mfun false fIsi (mcons (mvar 0) (mcons (mc (.ty .bool)) mnil))))))
def F_is_integer : FunT := runB 1 m_is_integer
theorem ok_is_integer {f : Addr} {fd : FuncData} {dvs : List V} {kws : List (Str × V)} (T : TX C mg) (FD : FunD C.K "is_integer" "is_integer" (defArgs st_is_integer) (defBody st_is_integer) (defScope st_is_integer) dvs kws f fd) : FnG P w C.K mg base CX0 1 f fd ["value"] (spM C 1 F_is_integer) :=
  fn_ok (k := 0) (m := m_is_integer) FD sc_is_integer rfl rfl rfl fun cdv A outer s H E hr =>
  (evss_one (evs_ret (ev_and rfl (ev_B (fn_isi rfl) T.z_isinstance rfl bb_isinstance (evl_cons (ev_pv rfl rfl rfl rfl) (evl_cons (ev_ty (t := .int) T.z_int rfl bt_int rfl rfl) evl_nil rfl) rfl) rfl rfl rfl) (ev_one (ev_not rfl (ev_B (fn_isi rfl) T.z_isinstance rfl bb_isinstance (evl_cons (ev_pv rfl rfl rfl rfl) (evl_cons (ev_ty (t := .bool) T.z_bool rfl bt_bool rfl rfl) evl_nil rfl) rfl) rfl rfl rfl))))))
abbrev st_is_count : Stmt := top 11
theorem sc_is_count : FnScope ["value"] ["value"] (defScope st_is_count) := ⟨rfl, rfl, rfl, by decide +kernel, rfl, by decide +kernel, by decide +kernel⟩
def m_is_count : MS := (sRet (mand (mcall F_is_integer 1 [] (mcons (mvar 0) mnil)) (mop2 false oGe (mvar 0) (mc (.int 0)))))
def F_is_count : FunT := runB 1 m_is_count
theorem ok_is_count {f : Addr} {fd : FuncData} {dvs : List V} {kws : List (Str × V)} (T : TX C mg) (c_is_integer_1 : CallOk C P w mg base CX0 1 "is_integer" 1 F_is_integer []) (FD : FunD C.K "is_count" "is_count" (defArgs st_is_count) (defBody st_is_count) (defScope st_is_count) dvs kws f fd) : FnG P w C.K mg base CX0 2 f fd ["value"] (spM C 1 F_is_count) :=
  fn_ok (k := 1) (m := m_is_count) FD sc_is_count rfl rfl rfl fun cdv A outer s H E hr =>
  (evss_one (evs_ret (ev_and rfl (ev_user rfl c_is_integer_1 hr rfl rfl (fun _ => passAt0) (evl_cons (ev_pv rfl rfl rfl rfl) evl_nil rfl) rfl rfl) (ev_one (ev_cmp (ops_cmp op_ge) (ev_pv rfl rfl rfl rfl) ev_int rfl)))))
abbrev st_is_made_of : Stmt := top 12
theorem sc_is_made_of : FnScope ["value", "signs", "most", "sign"] ["value", "signs", "most"] (defScope st_is_made_of) := ⟨rfl, rfl, rfl, by decide +kernel, rfl, by decide +kernel, by decide +kernel⟩
def m_is_made_of : MS := (sRet (mand (mfun false fIsi (mcons (mvar 0) (mcons (mc (.ty .str)) mnil))) (mand (mchain oLe oLe (mc (.int 1)) (mfun false fLen (mcons (mvar 0) mnil)) (mvar 2)) (mfun false fAll (mcons (mcomp false [3] (iseq (mvar 0)) (gname 3) yes (mop2 false oIn (mvar 3) (mvar 1))) mnil)))))
def F_is_made_of : FunT := runB 4 m_is_made_of
theorem ok_is_made_of {f : Addr} {fd : FuncData} {dvs : List V} {kws : List (Str × V)} (T : TX C mg) (FD : FunD C.K "is_made_of" "is_made_of" (defArgs st_is_made_of) (defBody st_is_made_of) (defScope st_is_made_of) dvs kws f fd) : FnG P w C.K mg base CX0 1 f fd ["value", "signs", "most"] (spM C 3 F_is_made_of) :=
  fn_ok (k := 0) (m := m_is_made_of) FD sc_is_made_of rfl rfl rfl fun cdv A outer s H E hr =>
  (evss_one (evs_ret (ev_and rfl (ev_B (fn_isi rfl) T.z_isinstance rfl bb_isinstance (evl_cons (ev_pv rfl rfl rfl rfl) (evl_cons (ev_ty (t := .str) T.z_str rfl bt_str rfl rfl) evl_nil rfl) rfl) rfl rfl rfl) (ev_and rfl (ev_chain (ops_cmp op_le) (ops_cmp op_le) ev_int (ev_B (fn_len rfl) T.z_len rfl bb_len (evl_cons (ev_pv rfl rfl rfl rfl) evl_nil rfl) rfl rfl rfl) (ev_pv rfl rfl rfl rfl) rfl) (ev_one (ev_B (fn_all rfl rfl) T.z_all rfl bb_all (evl_cons (ev_comp (own := [("sign", 3)]) rfl sc_is_made_of.nd (by decide) (evi_seq rfl (ev_pv rfl rfl rfl rfl)) (blkOk_by rfl) (fun s H Cc cl fp => (evg_n (i := 3) sc_is_made_of.nd rfl rfl)) (fun s H Cc cl fp => pts_nil) yes_t (fun s H Cc cl fp => (ev_cmp (ops_in rfl) (ev_pv rfl rfl rfl rfl) (ev_pv rfl rfl rfl rfl) rfl)) fun _ => rfl) evl_nil rfl) rfl rfl rfl))))))
abbrev st_is_name : Stmt := top 13
theorem sc_is_name : FnScope ["value"] ["value"] (defScope st_is_name) := ⟨rfl, rfl, rfl, by decide +kernel, rfl, by decide +kernel, by decide +kernel⟩
def m_is_name : MS := (sRet (mcall F_is_made_of 3 [] (mcons (mvar 0) (mcons (mc d_LETTERS) (mcons (mc d_MOST_LETTERS) mnil)))))
def F_is_name : FunT := runB 1 m_is_name
theorem ok_is_name {f : Addr} {fd : FuncData} {dvs : List V} {kws : List (Str × V)} (T : TX C mg) (c_is_made_of_3 : CallOk C P w mg base CX0 1 "is_made_of" 3 F_is_made_of []) (FD : FunD C.K "is_name" "is_name" (defArgs st_is_name) (defBody st_is_name) (defScope st_is_name) dvs kws f fd) : FnG P w C.K mg base CX0 2 f fd ["value"] (spM C 1 F_is_name) :=
  fn_ok (k := 1) (m := m_is_name) FD sc_is_name rfl rfl rfl fun cdv A outer s H E hr =>
  (evss_one (evs_ret (ev_user rfl c_is_made_of_3 hr rfl rfl (fun _ => passAt0) (evl_cons (ev_pv rfl rfl rfl rfl) (evl_cons (ev_glob T.g_LETTERS rfl rfl) (evl_cons (ev_glob T.g_MOST_LETTERS rfl rfl) evl_nil rfl) rfl) rfl) rfl rfl)))
abbrev st_is_parameter : Stmt := top 14
theorem sc_is_parameter : FnScope ["value"] ["value"] (defScope st_is_parameter) := ⟨rfl, rfl, rfl, by decide +kernel, rfl, by decide +kernel, by decide +kernel⟩
def m_is_parameter : MS := (sRet (mcall F_is_made_of 3 [] (mcons (mvar 0) (mcons (mc d_CAPITALS) (mcons (mc d_MOST_CAPITALS) mnil)))))
def F_is_parameter : FunT := runB 1 m_is_parameter
theorem ok_is_parameter {f : Addr} {fd : FuncData} {dvs : List V} {kws : List (Str × V)} (T : TX C mg) (c_is_made_of_3 : CallOk C P w mg base CX0 1 "is_made_of" 3 F_is_made_of []) (FD : FunD C.K "is_parameter" "is_parameter" (defArgs st_is_parameter) (defBody st_is_parameter) (defScope st_is_parameter) dvs kws f fd) : FnG P w C.K mg base CX0 2 f fd ["value"] (spM C 1 F_is_parameter) :=
  fn_ok (k := 1) (m := m_is_parameter) FD sc_is_parameter rfl rfl rfl fun cdv A outer s H E hr =>
  (evss_one (evs_ret (ev_user rfl c_is_made_of_3 hr rfl rfl (fun _ => passAt0) (evl_cons (ev_pv rfl rfl rfl rfl) (evl_cons (ev_glob T.g_CAPITALS rfl rfl) (evl_cons (ev_glob T.g_MOST_CAPITALS rfl rfl) evl_nil rfl) rfl) rfl) rfl rfl)))
abbrev st_is_place : Stmt := top 15
theorem sc_is_place : FnScope ["value", "position"] ["value"] (defScope st_is_place) := ⟨rfl, rfl, rfl, by decide +kernel, rfl, by decide +kernel, by decide +kernel⟩
def m_is_place : MS := (sRet (mand (mfun false fIsi (mcons (mvar 0) (mcons (mc (.ty .tuple)) mnil))) (mfun false fAll (mcons (mcomp false [1] (iseq (mvar 0)) (gname 1) yes (mcall F_is_count 1 [] (mcons (mvar 1) mnil))) mnil))))
def F_is_place : FunT := runB 2 m_is_place
theorem ok_is_place {f : Addr} {fd : FuncData} {dvs : List V} {kws : List (Str × V)} (T : TX C mg) (c_is_count_1 : CallOk C P w mg base CX0 2 "is_count" 1 F_is_count []) (FD : FunD C.K "is_place" "is_place" (defArgs st_is_place) (defBody st_is_place) (defScope st_is_place) dvs kws f fd) : FnG P w C.K mg base CX0 3 f fd ["value"] (spM C 1 F_is_place) :=
  fn_ok (k := 2) (m := m_is_place) FD sc_is_place rfl rfl rfl fun cdv A outer s H E hr =>
  (evss_one (evs_ret (ev_and rfl (ev_B (fn_isi rfl) T.z_isinstance rfl bb_isinstance (evl_cons (ev_pv rfl rfl rfl rfl) (evl_cons (ev_ty (t := .tuple) T.z_tuple rfl bt_tuple rfl rfl) evl_nil rfl) rfl) rfl rfl rfl) (ev_one (ev_B (fn_all rfl rfl) T.z_all rfl bb_all (evl_cons (ev_comp (own := [("position", 1)]) rfl sc_is_place.nd (by decide) (evi_seq rfl (ev_pv rfl rfl rfl rfl)) (blkOk_by rfl) (fun s H Cc cl fp => (evg_n (i := 1) sc_is_place.nd rfl rfl)) (fun s H Cc cl fp => pts_nil) yes_t (fun s H Cc cl fp => (ev_user rfl c_is_count_1 hr rfl rfl (fun _ => passAt0) (evl_cons (ev_pv rfl rfl rfl rfl) evl_nil rfl) rfl rfl)) fun _ => rfl) evl_nil rfl) rfl rfl rfl)))))
abbrev st_is_word : Stmt := top 16
theorem sc_is_word : FnScope ["value", "parameters"] ["value", "parameters"] (defScope st_is_word) := ⟨rfl, rfl, rfl, by decide +kernel, rfl, by decide +kernel, by decide +kernel⟩
def m_is_word : MS := (sRet (mor (mcall F_is_name 1 [] (mcons (mvar 0) mnil)) (mand (mfun false fIsi (mcons (mvar 0) (mcons (mc (.ty .str)) mnil))) (mop2 false oIn (mvar 0) (mvar 1)))))
def F_is_word : FunT := runB 2 m_is_word
theorem ok_is_word {f : Addr} {fd : FuncData} {dvs : List V} {kws : List (Str × V)} (T : TX C mg) (c_is_name_1 : CallOk C P w mg base CX0 2 "is_name" 1 F_is_name []) (FD : FunD C.K "is_word" "is_word" (defArgs st_is_word) (defBody st_is_word) (defScope st_is_word) dvs kws f fd) : FnG P w C.K mg base CX0 3 f fd ["value", "parameters"] (spM C 2 F_is_word) :=
  fn_ok (k := 2) (m := m_is_word) FD sc_is_word rfl rfl rfl fun cdv A outer s H E hr =>
  (evss_one (evs_ret (ev_or rfl (ev_user rfl c_is_name_1 hr rfl rfl (fun _ => passAt0) (evl_cons (ev_pv rfl rfl rfl rfl) evl_nil rfl) rfl rfl) (ev_one (ev_and rfl (ev_B (fn_isi rfl) T.z_isinstance rfl bb_isinstance (evl_cons (ev_pv rfl rfl rfl rfl) (evl_cons (ev_ty (t := .str) T.z_str rfl bt_str rfl rfl) evl_nil rfl) rfl) rfl rfl rfl) (ev_one (ev_cmp (ops_in rfl) (ev_pv rfl rfl rfl rfl) (ev_pv rfl rfl rfl rfl) rfl)))))))
abbrev st_is_path : Stmt := top 17
theorem sc_is_path : FnScope ["value", "parameters", "in_macro", "start", "words", "word"] ["value", "parameters", "in_macro"] (defScope st_is_path) := ⟨rfl, rfl, rfl, by decide +kernel, rfl, by decide +kernel, by decide +kernel⟩
def m_is_path : MS := (sSeq (sIf (morT (mnotT (mtru (mfun false fIsi (mcons (mvar 0) (mcons (mc (.ty .tuple)) mnil))))) (mnotT (mbl (mchain oLe oLe (mc (.int 1)) (mfun false fLen (mcons (mvar 0) mnil)) (mop2 false oAdd (mc d_MOST_WORDS) (mc (.int 1))))))) (sRet (mc (.bl false))) sPass)
  (sSeq (sAsg (mvar 0) (gstar [(gname 3), (gname 4)]))
  (sSeq (sIf (morT (mnotT (mtru (mfun false fIsi (mcons (mvar 3) (mcons (mc (.ty .str)) mnil))))) (morT (mbl (mop2 false oNotIn (mvar 3) (mc d_STARTS))) (mandT (mbl (mop2 false oEq (mvar 3) (mc d_THERE))) (mnotT (mtru (mvar 2)))))) (sRet (mc (.bl false))) sPass)
  (sRet (mfun false fAll (mcons (mcomp false [5] (iseq (mvar 4)) (gname 5) yes (mcall F_is_word 2 [] (mcons (mvar 5) (mcons (mvar 1) mnil)))) mnil))))))
def F_is_path : FunT := runB 6 m_is_path
theorem ok_is_path {f : Addr} {fd : FuncData} {dvs : List V} {kws : List (Str × V)} (T : TX C mg) (c_is_word_2 : CallOk C P w mg base CX0 3 "is_word" 2 F_is_word []) (FD : FunD C.K "is_path" "is_path" (defArgs st_is_path) (defBody st_is_path) (defScope st_is_path) dvs kws f fd) : FnG P w C.K mg base CX0 4 f fd ["value", "parameters", "in_macro"] (spM C 3 F_is_path) :=
  fn_ok (k := 3) (m := m_is_path) FD sc_is_path rfl rfl rfl fun cdv A outer s H E hr =>
  (evss_cons (evs_if ((evt_or (evt_not (evt_tru rfl (ev_B (fn_isi rfl) T.z_isinstance rfl bb_isinstance (evl_cons (ev_pv rfl rfl rfl rfl) (evl_cons (ev_ty (t := .tuple) T.z_tuple rfl bt_tuple rfl rfl) evl_nil rfl) rfl) rfl rfl rfl) rfl)) (pw_or1 (evt_not (evt_chain (ops_cmp op_le) (ops_cmp op_le) ev_int (ev_B (fn_len rfl) T.z_len rfl bb_len (evl_cons (ev_pv rfl rfl rfl rfl) evl_nil rfl) rfl rfl rfl) (ev_bin (ops_add rfl) (ev_glob T.g_MOST_WORDS rfl rfl) ev_int) rfl))))).pt (evss_one (evs_ret ev_bl)) evss_nil)
  (evss_cons (evs_asg (ev_pv rfl rfl rfl rfl) (evg_star (es := [_]) rfl rfl (evgs_cons (evg_n (i := 3) sc_is_path.nd rfl rfl) (evgs_cons (evg_n (i := 4) sc_is_path.nd rfl rfl) evgs_nil rfl) rfl) rfl rfl) rfl)
  (evss_cons (evs_if ((evt_or (evt_not (evt_tru rfl (ev_B (fn_isi rfl) T.z_isinstance rfl bb_isinstance (evl_cons (ev_pv rfl rfl rfl rfl) (evl_cons (ev_ty (t := .str) T.z_str rfl bt_str rfl rfl) evl_nil rfl) rfl) rfl rfl rfl) rfl)) (evt_or (evt_cmp (ops_notIn rfl) (ev_pv rfl rfl rfl rfl) (ev_glob T.g_STARTS rfl rfl) rfl) (pw_or1 ((evt_and (evt_cmp (ops_eq rfl hr.room64) (ev_pv rfl rfl rfl rfl) (ev_glob T.g_THERE rfl rfl) rfl) (pw_and1 (evt_not (evt_tru rfl (ev_pv rfl rfl rfl rfl) rfl))))).pt)))).pt (evss_one (evs_ret ev_bl)) evss_nil)
  (evss_one (evs_ret (ev_B (fn_all rfl rfl) T.z_all rfl bb_all (evl_cons (ev_comp (own := [("word", 5)]) rfl sc_is_path.nd (by decide) (evi_seq rfl (ev_pv rfl rfl rfl rfl)) (blkOk_by rfl) (fun s H Cc cl fp => (evg_n (i := 5) sc_is_path.nd rfl rfl)) (fun s H Cc cl fp => pts_nil) yes_t (fun s H Cc cl fp => (ev_user rfl c_is_word_2 hr rfl rfl (fun _ => passAt0) (evl_cons (ev_pv rfl rfl rfl rfl) (evl_cons (ev_pv rfl rfl rfl rfl) evl_nil rfl) rfl) rfl rfl)) fun _ => rfl) evl_nil rfl) rfl rfl rfl))))))
abbrev st__law_rng : Stmt := top 19
theorem sc__law_rng : FnScope ["_law_script", "_law_k", "_law_cell"] ["_law_script", "_law_k"] (defScope st__law_rng) := ⟨rfl, rfl, rfl, by decide +kernel, rfl, by decide +kernel, by decide +kernel⟩
def m__law_rng : MS := (sSeq (sAsg (mite (mbl (mop2 false oLt (mvar 1) (mfun false fLen (mcons (mvar 0) mnil)))) (mfun false fAbs (mcons (mop2 false oIx (mvar 0) (mvar 1)) mnil)) (mc (.int 0))) (gname 2))
  (sRet (mlst true (mcons (mfun false fMax (mcons (mc (.int 0)) (mcons (mop2 false oSub (mvar 2) (mop2 false oPow (mc (.int 10)) (mc (.int 18)))) mnil))) (mcons (mop2 false oAdd (mop2 false oMod (mop2 false oPow (mop2 false oAdd (mop2 false oAdd (mop2 false oMod (mvar 2) (mc (.int 2147483563))) (mop2 false oMul (mc (.int 4099)) (mvar 1))) (mc (.int 17))) (mc (.int 2))) (mc (.int 2147483549))) (mc (.int 1))) mnil)))))
def F__law_rng : FunT := runB 3 m__law_rng
theorem ok__law_rng {f : Addr} {fd : FuncData} {dvs : List V} {kws : List (Str × V)} (T : TX C mg) (FD : FunD C.K "_law_rng" "_law_rng" (defArgs st__law_rng) (defBody st__law_rng) (defScope st__law_rng) dvs kws f fd) : FnG P w C.K mg base CX0 1 f fd ["_law_script", "_law_k"] (spM C 2 F__law_rng) :=
  fn_ok (k := 0) (m := m__law_rng) FD sc__law_rng rfl rfl rfl fun cdv A outer s H E hr =>
  (evss_cons (evs_asg (ev_ite (evt_cmp (ops_cmp op_lt) (ev_pv rfl rfl rfl rfl) (ev_B (fn_len rfl) T.z_len rfl bb_len (evl_cons (ev_pv rfl rfl rfl rfl) evl_nil rfl) rfl rfl rfl) rfl) (ev_B (fn_abs) T.z_abs rfl bb_abs (evl_cons (ev_ix (ix_ok rfl) (ev_pv rfl rfl rfl rfl) (ev_pv rfl rfl rfl rfl) fun _ _ => rfl) evl_nil rfl) rfl rfl rfl) ev_int) (evg_n (i := 2) sc__law_rng.nd rfl rfl) rfl)
  (evss_one (evs_ret (ev_lst (evl_cons (ev_B (fn_max rfl) T.z_max rfl bb_max (evl_cons ev_int (evl_cons (ev_bin ops_sub (ev_pv rfl rfl rfl rfl) (ev_bin ops_pow ev_int ev_int)) evl_nil rfl) rfl) rfl rfl rfl) (evl_cons (ev_bin (ops_add rfl) (ev_bin ops_mod (ev_bin ops_pow (ev_bin (ops_add rfl) (ev_bin (ops_add rfl) (ev_bin ops_mod (ev_pv rfl rfl rfl rfl) ev_int) (ev_bin (ops_mul rfl) ev_int (ev_pv rfl rfl rfl rfl))) ev_int) ev_int) ev_int) ev_int) evl_nil rfl) rfl)))))
abbrev st__law_draw : Stmt := top 20
theorem sc__law_draw : FnScope ["_law_rng_here", "_law_many", "_law_digit"] ["_law_rng_here", "_law_many"] (defScope st__law_draw) := ⟨rfl, rfl, rfl, by decide +kernel, rfl, by decide +kernel, by decide +kernel⟩
def m__law_draw : MS := (sSeq (sIf (mbl (mop2 false oGt (mop2 false oIx (mvar 0) (mc (.int 0))) (mc (.int 0)))) (sSeq (sAsg (mfun false fDivmod (mcons (mop2 false oIx (mvar 0) (mc (.int 0))) (mcons (mvar 1) mnil))) (gtup [(gsub (mvar 0) (mc (.int 0))), (gname 2)]))
  (sRet (mvar 2))) sPass)
  (sSeq (sAsg (mop2 false oMod (mop2 false oAdd (mop2 false oMul (mop2 false oIx (mvar 0) (mc (.int 1))) (mc (.int 39373))) (mc (.int 9311))) (mc (.int 2147483629))) (gsub (mvar 0) (mc (.int 1))))
  (sRet (mop2 false oMod (mop2 false oFdiv (mop2 false oMod (mop2 false oMul (mop2 false oIx (mvar 0) (mc (.int 1))) (mop2 false oIx (mvar 0) (mc (.int 1)))) (mc (.int 2147483563))) (mc (.int 11))) (mvar 1)))))
def F__law_draw : FunT := runB 3 m__law_draw
theorem ok__law_draw {f : Addr} {fd : FuncData} {dvs : List V} {kws : List (Str × V)} (T : TX C mg) (FD : FunD C.K "_law_draw" "_law_draw" (defArgs st__law_draw) (defBody st__law_draw) (defScope st__law_draw) dvs kws f fd) : FnG P w C.K mg base CX0 1 f fd ["_law_rng_here", "_law_many"] (spM C 2 F__law_draw) :=
  fn_ok (k := 0) (m := m__law_draw) FD sc__law_draw rfl rfl rfl fun cdv A outer s H E hr =>
  (evss_cons (evs_if (evt_cmp (ops_cmp op_gt) (ev_ix (ix_ok rfl) (ev_pv rfl rfl rfl rfl) ev_int fun _ _ => rfl) ev_int rfl) (evss_cons (evs_asg (ev_B (fn_divmod) T.z_divmod rfl bb_divmod (evl_cons (ev_ix (ix_ok rfl) (ev_pv rfl rfl rfl rfl) ev_int fun _ _ => rfl) (evl_cons (ev_pv rfl rfl rfl rfl) evl_nil rfl) rfl) rfl rfl rfl) (evg_tup rfl rfl (evgs_cons (evg_sub (W := W0) (ev_pv rfl rfl rfl rfl) ev_int rfl) (evgs_cons (evg_n (i := 2) sc__law_draw.nd rfl rfl) evgs_nil rfl) rfl) rfl rfl) rfl)
  (evss_one (evs_ret (ev_pv rfl rfl rfl rfl)))) evss_nil)
  (evss_cons (evs_asg (ev_bin ops_mod (ev_bin (ops_add rfl) (ev_bin (ops_mul rfl) (ev_ix (ix_ok rfl) (ev_pv rfl rfl rfl rfl) ev_int fun _ _ => rfl) ev_int) ev_int) ev_int) (evg_sub (W := W0) (ev_pv rfl rfl rfl rfl) ev_int rfl) rfl)
  (evss_one (evs_ret (ev_bin ops_mod (ev_bin ops_fdiv (ev_bin ops_mod (ev_bin (ops_mul rfl) (ev_ix (ix_ok rfl) (ev_pv rfl rfl rfl rfl) ev_int fun _ _ => rfl) (ev_ix (ix_ok rfl) (ev_pv rfl rfl rfl rfl) ev_int fun _ _ => rfl)) ev_int) ev_int) (ev_pv rfl rfl rfl rfl))))))
abbrev st__law_choice : Stmt := top 21
theorem sc__law_choice : FnScope ["_law_rng_here", "_law_some"] ["_law_rng_here", "_law_some"] (defScope st__law_choice) := ⟨rfl, rfl, rfl, by decide +kernel, rfl, by decide +kernel, by decide +kernel⟩
def m__law_choice : MS := (sRet (mop2 false oIx (mvar 1) (mcall F__law_draw 2 [] (mcons (mvar 0) (mcons (mfun false fLen (mcons (mvar 1) mnil)) mnil)))))
def F__law_choice : FunT := runB 2 m__law_choice
theorem ok__law_choice {f : Addr} {fd : FuncData} {dvs : List V} {kws : List (Str × V)} (T : TX C mg) (c__law_draw_2 : CallOk C P w mg base CX0 1 "_law_draw" 2 F__law_draw []) (FD : FunD C.K "_law_choice" "_law_choice" (defArgs st__law_choice) (defBody st__law_choice) (defScope st__law_choice) dvs kws f fd) : FnG P w C.K mg base CX0 2 f fd ["_law_rng_here", "_law_some"] (spM C 2 F__law_choice) :=
  fn_ok (k := 1) (m := m__law_choice) FD sc__law_choice rfl rfl rfl fun cdv A outer s H E hr =>
  (evss_one (evs_ret (ev_ix (ix_ok rfl) (ev_pv rfl rfl rfl rfl) (ev_user rfl c__law_draw_2 hr rfl rfl (fun _ => passAt0) (evl_cons (ev_pv rfl rfl rfl rfl) (evl_cons (ev_B (fn_len rfl) T.z_len rfl bb_len (evl_cons (ev_pv rfl rfl rfl rfl) evl_nil rfl) rfl rfl rfl) evl_nil rfl) rfl) rfl rfl) fun _ _ => rfl)))
abbrev st__law_shuffled : Stmt := top 22
theorem sc__law_shuffled : FnScope ["_law_rng_here", "_law_some", "_law_left", "_law_k"] ["_law_rng_here", "_law_some"] (defScope st__law_shuffled) := ⟨rfl, rfl, rfl, by decide +kernel, rfl, by decide +kernel, by decide +kernel⟩
def m__law_shuffled : MS := (sSeq (sAsg (mfun true fList (mcons (mvar 1) mnil)) (gname 2))
  (sRet (mcomp false [3] (irng irange1 (mcons (mfun false fLen (mcons (mvar 1) mnil)) mnil)) (gname 3) yes (mmeth isLst fPop (mvar 2) (mcons (mcall F__law_draw 2 [] (mcons (mvar 0) (mcons (mfun false fLen (mcons (mvar 2) mnil)) mnil))) mnil)))))
def F__law_shuffled : FunT := runB 4 m__law_shuffled
theorem ok__law_shuffled {f : Addr} {fd : FuncData} {dvs : List V} {kws : List (Str × V)} (T : TX C mg) (c__law_draw_2 : CallOk C P w mg base CX0 1 "_law_draw" 2 F__law_draw []) (FD : FunD C.K "_law_shuffled" "_law_shuffled" (defArgs st__law_shuffled) (defBody st__law_shuffled) (defScope st__law_shuffled) dvs kws f fd) : FnG P w C.K mg base CX0 2 f fd ["_law_rng_here", "_law_some"] (spM C 2 F__law_shuffled) :=
  fn_ok (k := 1) (m := m__law_shuffled) FD sc__law_shuffled rfl rfl rfl fun cdv A outer s H E hr =>
  (evss_cons (evs_asg (ev_T (fn_list rfl) T.z_list rfl bt_list (evl_cons (ev_pv rfl rfl rfl rfl) evl_nil rfl) rfl rfl rfl) (evg_c (i := 2) sc__law_shuffled.nd rfl rfl rfl) rfl)
  (evss_one (evs_ret (ev_comp (own := [("_law_k", 3)]) rfl sc__law_shuffled.nd (by decide) (ev_rng1 T.z_range rfl (ev_B (fn_len rfl) T.z_len rfl bb_len (evl_cons (ev_pv rfl rfl rfl rfl) evl_nil rfl) rfl rfl rfl) rfl) (blkOk_by rfl) (fun s H Cc cl fp => (evg_n (i := 3) sc__law_shuffled.nd rfl rfl)) (fun s H Cc cl fp => pts_nil) yes_t (fun s H Cc cl fp => (ev_pop rfl (ev_pv rfl rfl rfl rfl) (ev_user rfl c__law_draw_2 hr rfl rfl (fun _ => passAt0) (evl_cons (ev_pv rfl rfl rfl rfl) (evl_cons (ev_B (fn_len rfl) T.z_len rfl bb_len (evl_cons (ev_pv rfl rfl rfl rfl) evl_nil rfl) rfl rfl rfl) evl_nil rfl) rfl) rfl rfl) rfl rfl rfl)) fun _ => rfl))))
abbrev st__law_is_whole : Stmt := top 23
theorem sc__law_is_whole : FnScope ["_law_value_here"] ["_law_value_here"] (defScope st__law_is_whole) := ⟨rfl, rfl, rfl, by decide +kernel, rfl, by decide +kernel, by decide +kernel⟩
def m__law_is_whole : MS := (sRet (mand (mfun false fIsi (mcons (mvar 0) (mcons (mc (.ty .int)) mnil))) (mnot (mfun false fIsi (mcons (mvar 0) (mcons (mc (.ty .bool)) mnil))))))
def F__law_is_whole : FunT := runB 1 m__law_is_whole
theorem ok__law_is_whole {f : Addr} {fd : FuncData} {dvs : List V} {kws : List (Str × V)} (T : TX C mg) (FD : FunD C.K "_law_is_whole" "_law_is_whole" (defArgs st__law_is_whole) (defBody st__law_is_whole) (defScope st__law_is_whole) dvs kws f fd) : FnG P w C.K mg base CX0 1 f fd ["_law_value_here"] (spM C 1 F__law_is_whole) :=
  fn_ok (k := 0) (m := m__law_is_whole) FD sc__law_is_whole rfl rfl rfl fun cdv A outer s H E hr =>
  (evss_one (evs_ret (ev_and rfl (ev_B (fn_isi rfl) T.z_isinstance rfl bb_isinstance (evl_cons (ev_pv rfl rfl rfl rfl) (evl_cons (ev_ty (t := .int) T.z_int rfl bt_int rfl rfl) evl_nil rfl) rfl) rfl rfl rfl) (ev_one (ev_not rfl (ev_B (fn_isi rfl) T.z_isinstance rfl bb_isinstance (evl_cons (ev_pv rfl rfl rfl rfl) (evl_cons (ev_ty (t := .bool) T.z_bool rfl bt_bool rfl rfl) evl_nil rfl) rfl) rfl rfl rfl))))))
abbrev st__law_is_spelled : Stmt := top 24
theorem sc__law_is_spelled : FnScope ["_law_value_here", "_law_signs", "_law_most", "_law_sign"] ["_law_value_here", "_law_signs", "_law_most"] (defScope st__law_is_spelled) := ⟨rfl, rfl, rfl, by decide +kernel, rfl, by decide +kernel, by decide +kernel⟩
def m__law_is_spelled : MS := (sSeq (sIf (morT (mnotT (mtru (mfun false fIsi (mcons (mvar 0) (mcons (mc (.ty .str)) mnil))))) (morT (mbl (mop2 false oEq (mfun false fLen (mcons (mvar 0) mnil)) (mc (.int 0)))) (mbl (mop2 false oGt (mfun false fLen (mcons (mvar 0) mnil)) (mvar 2))))) (sRet (mc (.bl false))) sPass)
  (sRet (mfun false fAll (mcons (mcomp false [3] (iseq (mvar 0)) (gname 3) yes (mop2 false oIn (mvar 3) (mvar 1))) mnil))))
def F__law_is_spelled : FunT := runB 4 m__law_is_spelled
theorem ok__law_is_spelled {f : Addr} {fd : FuncData} {dvs : List V} {kws : List (Str × V)} (T : TX C mg) (FD : FunD C.K "_law_is_spelled" "_law_is_spelled" (defArgs st__law_is_spelled) (defBody st__law_is_spelled) (defScope st__law_is_spelled) dvs kws f fd) : FnG P w C.K mg base CX0 1 f fd ["_law_value_here", "_law_signs", "_law_most"] (spM C 3 F__law_is_spelled) :=
  fn_ok (k := 0) (m := m__law_is_spelled) FD sc__law_is_spelled rfl rfl rfl fun cdv A outer s H E hr =>
  (evss_cons (evs_if ((evt_or (evt_not (evt_tru rfl (ev_B (fn_isi rfl) T.z_isinstance rfl bb_isinstance (evl_cons (ev_pv rfl rfl rfl rfl) (evl_cons (ev_ty (t := .str) T.z_str rfl bt_str rfl rfl) evl_nil rfl) rfl) rfl rfl rfl) rfl)) (evt_or (evt_cmp (ops_eq rfl hr.room64) (ev_B (fn_len rfl) T.z_len rfl bb_len (evl_cons (ev_pv rfl rfl rfl rfl) evl_nil rfl) rfl rfl rfl) ev_int rfl) (pw_or1 (evt_cmp (ops_cmp op_gt) (ev_B (fn_len rfl) T.z_len rfl bb_len (evl_cons (ev_pv rfl rfl rfl rfl) evl_nil rfl) rfl rfl rfl) (ev_pv rfl rfl rfl rfl) rfl))))).pt (evss_one (evs_ret ev_bl)) evss_nil)
  (evss_one (evs_ret (ev_B (fn_all rfl rfl) T.z_all rfl bb_all (evl_cons (ev_comp (own := [("_law_sign", 3)]) rfl sc__law_is_spelled.nd (by decide) (evi_seq rfl (ev_pv rfl rfl rfl rfl)) (blkOk_by rfl) (fun s H Cc cl fp => (evg_n (i := 3) sc__law_is_spelled.nd rfl rfl)) (fun s H Cc cl fp => pts_nil) yes_t (fun s H Cc cl fp => (ev_cmp (ops_in rfl) (ev_pv rfl rfl rfl rfl) (ev_pv rfl rfl rfl rfl) rfl)) fun _ => rfl) evl_nil rfl) rfl rfl rfl))))
abbrev st__law_is_small : Stmt := top 25
theorem sc__law_is_small : FnScope ["_law_value_here"] ["_law_value_here"] (defScope st__law_is_small) := ⟨rfl, rfl, rfl, by decide +kernel, rfl, by decide +kernel, by decide +kernel⟩
def m__law_is_small : MS := (sRet (mcall F__law_is_spelled 3 [] (mcons (mvar 0) (mcons (mc (.str "abcdefghijklmnopqrstuvwxyz")) (mcons (mc (.int 8)) mnil)))))
def F__law_is_small : FunT := runB 1 m__law_is_small
theorem ok__law_is_small {f : Addr} {fd : FuncData} {dvs : List V} {kws : List (Str × V)} (T : TX C mg) (c__law_is_spelled_3 : CallOk C P w mg base CX0 1 "_law_is_spelled" 3 F__law_is_spelled []) (FD : FunD C.K "_law_is_small" "_law_is_small" (defArgs st__law_is_small) (defBody st__law_is_small) (defScope st__law_is_small) dvs kws f fd) : FnG P w C.K mg base CX0 2 f fd ["_law_value_here"] (spM C 1 F__law_is_small) :=
  fn_ok (k := 1) (m := m__law_is_small) FD sc__law_is_small rfl rfl rfl fun cdv A outer s H E hr =>
  (evss_one (evs_ret (ev_user rfl c__law_is_spelled_3 hr rfl rfl (fun _ => passAt0) (evl_cons (ev_pv rfl rfl rfl rfl) (evl_cons (ev_str rfl) (evl_cons ev_int evl_nil rfl) rfl) rfl) rfl rfl)))
abbrev st__law_is_great : Stmt := top 26
theorem sc__law_is_great : FnScope ["_law_value_here"] ["_law_value_here"] (defScope st__law_is_great) := ⟨rfl, rfl, rfl, by decide +kernel, rfl, by decide +kernel, by decide +kernel⟩
def m__law_is_great : MS := (sRet (mcall F__law_is_spelled 3 [] (mcons (mvar 0) (mcons (mc (.str "ABCDEFGHIJKLMNOPQRSTUVWXYZ")) (mcons (mc (.int 4)) mnil)))))
def F__law_is_great : FunT := runB 1 m__law_is_great
theorem ok__law_is_great {f : Addr} {fd : FuncData} {dvs : List V} {kws : List (Str × V)} (T : TX C mg) (c__law_is_spelled_3 : CallOk C P w mg base CX0 1 "_law_is_spelled" 3 F__law_is_spelled []) (FD : FunD C.K "_law_is_great" "_law_is_great" (defArgs st__law_is_great) (defBody st__law_is_great) (defScope st__law_is_great) dvs kws f fd) : FnG P w C.K mg base CX0 2 f fd ["_law_value_here"] (spM C 1 F__law_is_great) :=
  fn_ok (k := 1) (m := m__law_is_great) FD sc__law_is_great rfl rfl rfl fun cdv A outer s H E hr =>
  (evss_one (evs_ret (ev_user rfl c__law_is_spelled_3 hr rfl rfl (fun _ => passAt0) (evl_cons (ev_pv rfl rfl rfl rfl) (evl_cons (ev_str rfl) (evl_cons ev_int evl_nil rfl) rfl) rfl) rfl rfl)))
abbrev st__law_is_fit : Stmt := top 27
theorem sc__law_is_fit : FnScope ["_law_value_here", "_law_around"] ["_law_value_here", "_law_around"] (defScope st__law_is_fit) := ⟨rfl, rfl, rfl, by decide +kernel, rfl, by decide +kernel, by decide +kernel⟩
def m__law_is_fit : MS := (sRet (mor (mcall F__law_is_small 1 [] (mcons (mvar 0) mnil)) (mand (mcall F__law_is_great 1 [] (mcons (mvar 0) mnil)) (mop2 false oIn (mvar 0) (mvar 1)))))
def F__law_is_fit : FunT := runB 2 m__law_is_fit
theorem ok__law_is_fit {f : Addr} {fd : FuncData} {dvs : List V} {kws : List (Str × V)} (T : TX C mg) (c__law_is_small_1 : CallOk C P w mg base CX0 2 "_law_is_small" 1 F__law_is_small []) (c__law_is_great_1 : CallOk C P w mg base CX0 2 "_law_is_great" 1 F__law_is_great []) (FD : FunD C.K "_law_is_fit" "_law_is_fit" (defArgs st__law_is_fit) (defBody st__law_is_fit) (defScope st__law_is_fit) dvs kws f fd) : FnG P w C.K mg base CX0 3 f fd ["_law_value_here", "_law_around"] (spM C 2 F__law_is_fit) :=
  fn_ok (k := 2) (m := m__law_is_fit) FD sc__law_is_fit rfl rfl rfl fun cdv A outer s H E hr =>
  (evss_one (evs_ret (ev_or rfl (ev_user rfl c__law_is_small_1 hr rfl rfl (fun _ => passAt0) (evl_cons (ev_pv rfl rfl rfl rfl) evl_nil rfl) rfl rfl) (ev_one (ev_and rfl (ev_user rfl c__law_is_great_1 hr rfl rfl (fun _ => passAt0) (evl_cons (ev_pv rfl rfl rfl rfl) evl_nil rfl) rfl rfl) (ev_one (ev_cmp (ops_in rfl) (ev_pv rfl rfl rfl rfl) (ev_pv rfl rfl rfl rfl) rfl)))))))
abbrev st__law_is_way : Stmt := top 28
theorem sc__law_is_way : FnScope ["_law_value_here", "_law_around", "_law_is_inner", "_law_least", "_law_word"] ["_law_value_here", "_law_around", "_law_is_inner", "_law_least"] (defScope st__law_is_way) := ⟨rfl, rfl, rfl, by decide +kernel, rfl, by decide +kernel, by decide +kernel⟩
def m__law_is_way : MS := (sSeq (sIf (morT (mnotT (mtru (mfun false fIsi (mcons (mvar 0) (mcons (mc (.ty .tuple)) mnil))))) (morT (mbl (mop2 false oLt (mfun false fLen (mcons (mvar 0) mnil)) (mop2 false oAdd (mc (.int 1)) (mvar 3)))) (morT (mbl (mop2 false oGt (mfun false fLen (mcons (mvar 0) mnil)) (mc (.int 7)))) (mnotT (mtru (mfun false fIsi (mcons (mop2 false oIx (mvar 0) (mc (.int 0))) (mcons (mc (.ty .str)) mnil)))))))) (sRet (mc (.bl false))) sPass)
  (sSeq (sIf (mbl (mop2 false oNotIn (mop2 false oIx (mvar 0) (mc (.int 0))) (mop2 false oAdd (mlst false (mcons (mc (.str "root")) (mcons (mc (.str "here")) mnil))) (mop2 false oMul (mlst false (mcons (mc (.str "there")) mnil)) (mfun false fInt (mcons (mvar 2) mnil)))))) (sRet (mc (.bl false))) sPass)
  (sRet (mfun false fAll (mcons (mcomp false [4] (iseq (msl false (mvar 0) (mpart (some (mc (.int 1)))) (mpart none))) (gname 4) yes (mcall F__law_is_fit 2 [] (mcons (mvar 4) (mcons (mvar 1) mnil)))) mnil)))))
def F__law_is_way : FunT := runB 5 m__law_is_way
theorem ok__law_is_way {f : Addr} {fd : FuncData} {dvs : List V} {kws : List (Str × V)} (T : TX C mg) (c__law_is_fit_2 : CallOk C P w mg base CX0 3 "_law_is_fit" 2 F__law_is_fit []) (FD : FunD C.K "_law_is_way" "_law_is_way" (defArgs st__law_is_way) (defBody st__law_is_way) (defScope st__law_is_way) dvs kws f fd) : FnG P w C.K mg base CX0 4 f fd ["_law_value_here", "_law_around", "_law_is_inner", "_law_least"] (spM C 4 F__law_is_way) :=
  fn_ok (k := 3) (m := m__law_is_way) FD sc__law_is_way rfl rfl rfl fun cdv A outer s H E hr =>
  (evss_cons (evs_if ((evt_or (evt_not (evt_tru rfl (ev_B (fn_isi rfl) T.z_isinstance rfl bb_isinstance (evl_cons (ev_pv rfl rfl rfl rfl) (evl_cons (ev_ty (t := .tuple) T.z_tuple rfl bt_tuple rfl rfl) evl_nil rfl) rfl) rfl rfl rfl) rfl)) (evt_or (evt_cmp (ops_cmp op_lt) (ev_B (fn_len rfl) T.z_len rfl bb_len (evl_cons (ev_pv rfl rfl rfl rfl) evl_nil rfl) rfl rfl rfl) (ev_bin (ops_add rfl) ev_int (ev_pv rfl rfl rfl rfl)) rfl) (evt_or (evt_cmp (ops_cmp op_gt) (ev_B (fn_len rfl) T.z_len rfl bb_len (evl_cons (ev_pv rfl rfl rfl rfl) evl_nil rfl) rfl rfl rfl) ev_int rfl) (pw_or1 (evt_not (evt_tru rfl (ev_B (fn_isi rfl) T.z_isinstance rfl bb_isinstance (evl_cons (ev_ix (ix_ok rfl) (ev_pv rfl rfl rfl rfl) ev_int fun _ _ => rfl) (evl_cons (ev_ty (t := .str) T.z_str rfl bt_str rfl rfl) evl_nil rfl) rfl) rfl rfl rfl) rfl))))))).pt (evss_one (evs_ret ev_bl)) evss_nil)
  (evss_cons (evs_if (evt_cmp (ops_notIn rfl) (ev_ix (ix_ok rfl) (ev_pv rfl rfl rfl rfl) ev_int fun _ _ => rfl) (ev_bin (ops_add rfl) (ev_lst (evl_cons (ev_str rfl) (evl_cons (ev_str rfl) evl_nil rfl) rfl)) (ev_bin (ops_mul rfl) (ev_lst (evl_cons (ev_str rfl) evl_nil rfl)) (ev_T (fn_int) T.z_int rfl bt_int (evl_cons (ev_pv rfl rfl rfl rfl) evl_nil rfl) rfl rfl rfl))) rfl) (evss_one (evs_ret ev_bl)) evss_nil)
  (evss_one (evs_ret (ev_B (fn_all rfl rfl) T.z_all rfl bb_all (evl_cons (ev_comp (own := [("_law_word", 4)]) rfl sc__law_is_way.nd (by decide) (evi_seq rfl (ev_sl rfl (ev_pv rfl rfl rfl rfl) (evo_some ev_int) evo_none)) (blkOk_by rfl) (fun s H Cc cl fp => (evg_n (i := 4) sc__law_is_way.nd rfl rfl)) (fun s H Cc cl fp => pts_nil) yes_t (fun s H Cc cl fp => (ev_user rfl c__law_is_fit_2 hr rfl rfl (fun _ => passAt0) (evl_cons (ev_pv rfl rfl rfl rfl) (evl_cons (ev_pv rfl rfl rfl rfl) evl_nil rfl) rfl) rfl rfl)) fun _ => rfl) evl_nil rfl) rfl rfl rfl)))))
abbrev st__law_is_spot : Stmt := top 29
theorem sc__law_is_spot : FnScope ["_law_value_here", "_law_part"] ["_law_value_here"] (defScope st__law_is_spot) := ⟨rfl, rfl, rfl, by decide +kernel, rfl, by decide +kernel, by decide +kernel⟩
def m__law_is_spot : MS := (sRet (mand (mfun false fIsi (mcons (mvar 0) (mcons (mc (.ty .tuple)) mnil))) (mfun false fAll (mcons (mcomp false [1] (iseq (mvar 0)) (gname 1) yes (mand (mcall F__law_is_whole 1 [] (mcons (mvar 1) mnil)) (mop2 false oGe (mvar 1) (mc (.int 0))))) mnil))))
def F__law_is_spot : FunT := runB 2 m__law_is_spot
theorem ok__law_is_spot {f : Addr} {fd : FuncData} {dvs : List V} {kws : List (Str × V)} (T : TX C mg) (c__law_is_whole_1 : CallOk C P w mg base CX0 1 "_law_is_whole" 1 F__law_is_whole []) (FD : FunD C.K "_law_is_spot" "_law_is_spot" (defArgs st__law_is_spot) (defBody st__law_is_spot) (defScope st__law_is_spot) dvs kws f fd) : FnG P w C.K mg base CX0 2 f fd ["_law_value_here"] (spM C 1 F__law_is_spot) :=
  fn_ok (k := 1) (m := m__law_is_spot) FD sc__law_is_spot rfl rfl rfl fun cdv A outer s H E hr =>
  (evss_one (evs_ret (ev_and rfl (ev_B (fn_isi rfl) T.z_isinstance rfl bb_isinstance (evl_cons (ev_pv rfl rfl rfl rfl) (evl_cons (ev_ty (t := .tuple) T.z_tuple rfl bt_tuple rfl rfl) evl_nil rfl) rfl) rfl rfl rfl) (ev_one (ev_B (fn_all rfl rfl) T.z_all rfl bb_all (evl_cons (ev_comp (own := [("_law_part", 1)]) rfl sc__law_is_spot.nd (by decide) (evi_seq rfl (ev_pv rfl rfl rfl rfl)) (blkOk_by rfl) (fun s H Cc cl fp => (evg_n (i := 1) sc__law_is_spot.nd rfl rfl)) (fun s H Cc cl fp => pts_nil) yes_t (fun s H Cc cl fp => (ev_and rfl (ev_user rfl c__law_is_whole_1 hr rfl rfl (fun _ => passAt0) (evl_cons (ev_pv rfl rfl rfl rfl) evl_nil rfl) rfl rfl) (ev_one (ev_cmp (ops_cmp op_ge) (ev_pv rfl rfl rfl rfl) ev_int rfl)))) fun _ => rfl) evl_nil rfl) rfl rfl rfl)))))
abbrev st__law_text : Stmt := top 30
theorem sc__law_text : FnScope ["_law_rng_here", "_law_letters", "_law_text_here", "_law_at", "_law_k"] ["_law_rng_here"] (defScope st__law_text) := ⟨rfl, rfl, rfl, by decide +kernel, rfl, by decide +kernel, by decide +kernel⟩
def m__law_text : MS := (sSeq (sAsg (mop2 false oIx (mlst false (mcons (mc (.str "abcdefghijklmnopqrstuvwxyz")) (mcons (mc (.str "ABCDEFGHIJKLMNOPQRSTUVWXYZ")) mnil))) (mcall F__law_draw 2 [] (mcons (mvar 0) (mcons (mc (.int 2)) mnil)))) (gname 1))
  (sSeq (sAsg (mmeth isStr fJoin (mc (.str "")) (mcons (mcomp false [4] (irng irange1 (mcons (mcall F__law_draw 2 [] (mcons (mvar 0) (mcons (mc (.int 11)) mnil))) mnil)) (gname 4) yes (mcall F__law_choice 2 [] (mcons (mvar 0) (mcons (mvar 1) mnil)))) mnil)) (gname 2))
  (sSeq (sIf (mbl (mop2 false oEq (mcall F__law_draw 2 [] (mcons (mvar 0) (mcons (mc (.int 3)) mnil))) (mc (.int 0)))) (sSeq (sAsg (mcall F__law_draw 2 [] (mcons (mvar 0) (mcons (mop2 false oAdd (mfun false fLen (mcons (mvar 2) mnil)) (mc (.int 1))) mnil))) (gname 3))
  (sAsg (mop2 false oAdd (mop2 false oAdd (msl false (mvar 2) (mpart none) (mpart (some (mvar 3)))) (mcall F__law_choice 2 [] (mcons (mvar 0) (mcons (mlst false (mcons (mc (.str "a")) (mcons (mc (.str "Z")) (mcons (mc (.str "0")) (mcons (mc (.str "_")) (mcons (mc (.str " ")) (mcons (mc (.str ":")) (mcons (mc (.str "-")) (mcons (mc (.str "\n")) mnil))))))))) mnil)))) (msl false (mvar 2) (mpart (some (mop2 false oAdd (mvar 3) (mcall F__law_draw 2 [] (mcons (mvar 0) (mcons (mc (.int 2)) mnil)))))) (mpart none))) (gname 2))) sPass)
  (sRet (mvar 2)))))
def F__law_text : FunT := runB 5 m__law_text
theorem ok__law_text {f : Addr} {fd : FuncData} {dvs : List V} {kws : List (Str × V)} (T : TX C mg) (c__law_draw_2 : CallOk C P w mg base CX0 1 "_law_draw" 2 F__law_draw []) (c__law_choice_2 : CallOk C P w mg base CX0 2 "_law_choice" 2 F__law_choice []) (FD : FunD C.K "_law_text" "_law_text" (defArgs st__law_text) (defBody st__law_text) (defScope st__law_text) dvs kws f fd) : FnG P w C.K mg base CX0 3 f fd ["_law_rng_here"] (spM C 1 F__law_text) :=
  fn_ok (k := 2) (m := m__law_text) FD sc__law_text rfl rfl rfl fun cdv A outer s H E hr =>
  (evss_cons (evs_asg (ev_ix (ix_ok rfl) (ev_lst (evl_cons (ev_str rfl) (evl_cons (ev_str rfl) evl_nil rfl) rfl)) (ev_user rfl c__law_draw_2 hr rfl rfl (fun _ => passAt0) (evl_cons (ev_pv rfl rfl rfl rfl) (evl_cons ev_int evl_nil rfl) rfl) rfl rfl) fun _ _ => rfl) (evg_c (i := 1) sc__law_text.nd rfl rfl rfl) rfl)
  (evss_cons (evs_asg (ev_join rfl (ev_str rfl) (ev_comp (own := [("_law_k", 4)]) rfl sc__law_text.nd (by decide) (ev_rng1 T.z_range rfl (ev_user rfl c__law_draw_2 hr rfl rfl (fun _ => passAt0) (evl_cons (ev_pv rfl rfl rfl rfl) (evl_cons ev_int evl_nil rfl) rfl) rfl rfl) rfl) (blkOk_by rfl) (fun s H Cc cl fp => (evg_n (i := 4) sc__law_text.nd rfl rfl)) (fun s H Cc cl fp => pts_nil) yes_t (fun s H Cc cl fp => (ev_user rfl c__law_choice_2 hr rfl rfl (fun _ => passAt0) (evl_cons (ev_pv rfl rfl rfl rfl) (evl_cons (ev_pv rfl rfl rfl rfl) evl_nil rfl) rfl) rfl rfl)) fun _ => rfl) rfl rfl rfl) (evg_n (i := 2) sc__law_text.nd rfl rfl) rfl)
  (evss_cons (evs_if (evt_cmp (ops_eq rfl hr.room64) (ev_user rfl c__law_draw_2 hr rfl rfl (fun _ => passAt0) (evl_cons (ev_pv rfl rfl rfl rfl) (evl_cons ev_int evl_nil rfl) rfl) rfl rfl) ev_int rfl) (evss_cons (evs_asg (ev_user rfl c__law_draw_2 hr rfl rfl (fun _ => passAt0) (evl_cons (ev_pv rfl rfl rfl rfl) (evl_cons (ev_bin (ops_add rfl) (ev_B (fn_len rfl) T.z_len rfl bb_len (evl_cons (ev_pv rfl rfl rfl rfl) evl_nil rfl) rfl rfl rfl) ev_int) evl_nil rfl) rfl) rfl rfl) (evg_n (i := 3) sc__law_text.nd rfl rfl) rfl)
  (evss_one (evs_asg (ev_bin (ops_add rfl) (ev_bin (ops_add rfl) (ev_sl rfl (ev_pv rfl rfl rfl rfl) evo_none (evo_some (ev_pv rfl rfl rfl rfl))) (ev_user rfl c__law_choice_2 hr rfl rfl (fun _ => passAt0) (evl_cons (ev_pv rfl rfl rfl rfl) (evl_cons (ev_lst (evl_cons (ev_str rfl) (evl_cons (ev_str rfl) (evl_cons (ev_str rfl) (evl_cons (ev_str rfl) (evl_cons (ev_str rfl) (evl_cons (ev_str rfl) (evl_cons (ev_str rfl) (evl_cons (ev_str rfl) evl_nil rfl) rfl) rfl) rfl) rfl) rfl) rfl) rfl)) evl_nil rfl) rfl) rfl rfl)) (ev_sl rfl (ev_pv rfl rfl rfl rfl) (evo_some (ev_bin (ops_add rfl) (ev_pv rfl rfl rfl rfl) (ev_user rfl c__law_draw_2 hr rfl rfl (fun _ => passAt0) (evl_cons (ev_pv rfl rfl rfl rfl) (evl_cons ev_int evl_nil rfl) rfl) rfl rfl))) evo_none)) (evg_n (i := 2) sc__law_text.nd rfl rfl) rfl))) evss_nil)
  (evss_one (evs_ret (ev_pv rfl rfl rfl rfl))))))
abbrev st__law_odd : Stmt := top 31
theorem sc__law_odd : FnScope ["_law_rng_here", "_law_some"] ["_law_rng_here"] (defScope st__law_odd) := ⟨rfl, rfl, rfl, by decide +kernel, rfl, by decide +kernel, by decide +kernel⟩
def m__law_odd : MS := (sSeq (sAsg (mlst true (mcons (mc .non) (mcons (mc (.bl true)) (mcons (mc (.bl false)) (mcons (mc (.int 0)) (mcons (mc (.int 1)) (mcons (mop1 false oNeg (mc (.int 1))) (mcons (mc (.str "")) (mcons (mc (.str "root")) (mcons (mc (.str "here")) (mcons (mc (.str "there")) (mcons (mtup mnil) (mcons (mlst false mnil) (mcons mdic0 (mcons (mlst false (mcons (mc (.int 0)) mnil)) (mcons (mlst false (mcons (mc (.str "root")) (mcons (mc (.str "a")) mnil))) (mcons (mtup (mcons (mc (.str "")) (mcons (mc (.str "a")) mnil))) mnil))))))))))))))))) (gname 1))
  (sSeq (sAsg (mop2 true oAdd (mvar 1) (mlst false (mcons (mtup (mcons (mc (.str "a")) mnil)) (mcons (mtup (mcons (mc (.int 0)) mnil)) (mcons (mtup (mcons (mc (.int 0)) (mcons (mc (.int 12)) mnil))) (mcons (mtup (mcons (mc (.bl true)) mnil)) (mcons (mtup (mcons (mc (.int 0)) (mcons (mop1 false oNeg (mc (.int 1))) mnil))) (mcons (mtup (mcons (mc (.int 0)) (mcons (mc (.str "1")) mnil))) (mcons (mtup (mcons (mtup (mcons (mc (.int 0)) mnil)) mnil)) (mcons (mtup (mcons (mc (.str "root")) (mcons (mc (.str "")) mnil))) (mcons (mtup (mcons (mc (.str "root")) (mcons (mc .non) mnil))) mnil))))))))))) (gname 1))
  (sSeq (sExpr (mmeth isLst fAppend (mvar 1) (mcons (mtup (mcons (mc (.str "here")) (mcons (mc (.str "a")) (mcons (mc (.str "A")) mnil)))) mnil)))
  (sRet (mcall F__law_choice 2 [] (mcons (mvar 0) (mcons (mop2 false oAdd (mvar 1) (mlst false (mcons (mtup (mcons (mc (.str "Root")) (mcons (mc (.str "a")) mnil))) (mcons (mtup (mcons (mc (.str "there")) (mcons (mc (.int 0)) mnil))) (mcons (mtup (mcons (mc .non) (mcons (mc (.str "a")) mnil))) (mcons (mtup (mcons (mc (.str "root")) (mcons (mlst false (mcons (mc (.str "a")) mnil)) mnil))) (mcons (mtup (mcons (mop2 false oPow (mc (.int 10)) (mc (.int 29))) (mcons (mc (.int 0)) mnil))) mnil))))))) mnil)))))))
def F__law_odd : FunT := runB 2 m__law_odd
theorem ok__law_odd {f : Addr} {fd : FuncData} {dvs : List V} {kws : List (Str × V)} (T : TX C mg) (c__law_choice_2 : CallOk C P w mg base CX0 2 "_law_choice" 2 F__law_choice []) (FD : FunD C.K "_law_odd" "_law_odd" (defArgs st__law_odd) (defBody st__law_odd) (defScope st__law_odd) dvs kws f fd) : FnG P w C.K mg base CX0 3 f fd ["_law_rng_here"] (spM C 1 F__law_odd) :=
  fn_ok (k := 2) (m := m__law_odd) FD sc__law_odd rfl rfl rfl fun cdv A outer s H E hr =>
  (evss_cons (evs_asg (ev_lst (evl_cons ev_non (evl_cons ev_bl (evl_cons ev_bl (evl_cons ev_int (evl_cons ev_int (evl_cons (ev_un uns_neg ev_int) (evl_cons (ev_str rfl) (evl_cons (ev_str rfl) (evl_cons (ev_str rfl) (evl_cons (ev_str rfl) (evl_cons (ev_tup evl_nil) (evl_cons (ev_lst evl_nil) (evl_cons ev_dic0 (evl_cons (ev_lst (evl_cons ev_int evl_nil rfl)) (evl_cons (ev_lst (evl_cons (ev_str rfl) (evl_cons (ev_str rfl) evl_nil rfl) rfl)) (evl_cons (ev_tup (evl_cons (ev_str rfl) (evl_cons (ev_str rfl) evl_nil rfl) rfl)) evl_nil rfl) rfl) rfl) rfl) rfl) rfl) rfl) rfl) rfl) rfl) rfl) rfl) rfl) rfl) rfl) rfl)) (evg_n (i := 1) sc__law_odd.nd rfl rfl) rfl)
  (evss_cons (evs_asg (ev_bin (ops_add rfl) (ev_pv rfl rfl rfl rfl) (ev_lst (evl_cons (ev_tup (evl_cons (ev_str rfl) evl_nil rfl)) (evl_cons (ev_tup (evl_cons ev_int evl_nil rfl)) (evl_cons (ev_tup (evl_cons ev_int (evl_cons ev_int evl_nil rfl) rfl)) (evl_cons (ev_tup (evl_cons ev_bl evl_nil rfl)) (evl_cons (ev_tup (evl_cons ev_int (evl_cons (ev_un uns_neg ev_int) evl_nil rfl) rfl)) (evl_cons (ev_tup (evl_cons ev_int (evl_cons (ev_str rfl) evl_nil rfl) rfl)) (evl_cons (ev_tup (evl_cons (ev_tup (evl_cons ev_int evl_nil rfl)) evl_nil rfl)) (evl_cons (ev_tup (evl_cons (ev_str rfl) (evl_cons (ev_str rfl) evl_nil rfl) rfl)) (evl_cons (ev_tup (evl_cons (ev_str rfl) (evl_cons ev_non evl_nil rfl) rfl)) evl_nil rfl) rfl) rfl) rfl) rfl) rfl) rfl) rfl) rfl))) (evg_n (i := 1) sc__law_odd.nd rfl rfl) rfl)
  (evss_cons (evs_expr (ev_append rfl (ev_pv rfl rfl rfl rfl) (ev_tup (evl_cons (ev_str rfl) (evl_cons (ev_str rfl) (evl_cons (ev_str rfl) evl_nil rfl) rfl) rfl)) rfl rfl rfl) rfl)
  (evss_one (evs_ret (ev_user rfl c__law_choice_2 hr rfl rfl (fun _ => passAt0) (evl_cons (ev_pv rfl rfl rfl rfl) (evl_cons (ev_bin (ops_add rfl) (ev_pv rfl rfl rfl rfl) (ev_lst (evl_cons (ev_tup (evl_cons (ev_str rfl) (evl_cons (ev_str rfl) evl_nil rfl) rfl)) (evl_cons (ev_tup (evl_cons (ev_str rfl) (evl_cons ev_int evl_nil rfl) rfl)) (evl_cons (ev_tup (evl_cons ev_non (evl_cons (ev_str rfl) evl_nil rfl) rfl)) (evl_cons (ev_tup (evl_cons (ev_str rfl) (evl_cons (ev_lst (evl_cons (ev_str rfl) evl_nil rfl)) evl_nil rfl) rfl)) (evl_cons (ev_tup (evl_cons (ev_bin ops_pow ev_int ev_int) (evl_cons ev_int evl_nil rfl) rfl)) evl_nil rfl) rfl) rfl) rfl) rfl))) evl_nil rfl) rfl) rfl rfl))))))
abbrev st__law_value : Stmt := top 32
theorem sc__law_value : FnScope ["_law_rng_here", "_law_around", "_law_way", "_law_some", "_law_start", "_law_many", "_law_words", "_law_value_here", "_law_k", "_law_row"] ["_law_rng_here", "_law_around"] (defScope st__law_value) := ⟨rfl, rfl, rfl, by decide +kernel, rfl, by decide +kernel, by decide +kernel⟩
def m__law_value : MS := (sSeq (sAsg (mcall F__law_draw 2 [] (mcons (mvar 0) (mcons (mc (.int 5)) mnil))) (gname 2))
  (sSeq (sIf (mbl (mop2 false oEq (mvar 2) (mc (.int 0)))) (sRet (mcall F__law_odd 1 [] (mcons (mvar 0) mnil))) sPass)
  (sSeq (sIf (mbl (mop2 false oEq (mvar 2) (mc (.int 1)))) (sRet (mcall F__law_text 1 [] (mcons (mvar 0) mnil))) sPass)
  (sSeq (sIf (mbl (mop2 false oEq (mvar 2) (mc (.int 2)))) (sSeq (sAsg (mcomp false [8] (irng irange1 (mcons (mcall F__law_draw 2 [] (mcons (mvar 0) (mcons (mc (.int 5)) mnil))) mnil)) (gname 8) yes (mlst false (mcons (mcall F__law_draw 2 [] (mcons (mvar 0) (mcons (mc (.int 3)) mnil))) (mcons (mcall F__law_draw 2 [] (mcons (mvar 0) (mcons (mc (.int 99)) mnil))) (mcons (mop2 false oPow (mc (.int 10)) (mc (.int 20))) mnil))))) (gname 3))
  (sRet (mfun false fTuple (mcons (mcomp false [9] (iseq (mvar 3)) (gname 9) yes (mop2 false oIx (mvar 9) (mcall F__law_draw 2 [] (mcons (mvar 0) (mcons (mc (.int 3)) mnil))))) mnil)))) sPass)
  (sSeq (sAsg (mcall F__law_choice 2 [] (mcons (mvar 0) (mcons (mlst false (mcons (mc (.str "root")) (mcons (mc (.str "here")) (mcons (mc (.str "there")) (mcons (mc (.str "root")) (mcons (mc (.str "here")) (mcons (mc (.str "there")) (mcons (mc (.str "rooted")) (mcons (mc (.str "a")) mnil))))))))) mnil))) (gname 4))
  (sSeq (sAsg (mop2 false oIx (mlst false (mcons (mc (.int 0)) (mcons (mc (.int 1)) (mcons (mc (.int 2)) (mcons (mc (.int 3)) (mcons (mc (.int 6)) (mcons (mc (.int 7)) mnil))))))) (mcall F__law_draw 2 [] (mcons (mvar 0) (mcons (mc (.int 6)) mnil)))) (gname 5))
  (sSeq (sAsg (mcomp false [8] (irng irange1 (mcons (mvar 5) mnil)) (gname 8) yes (mcall F__law_choice 2 [] (mcons (mvar 0) (mcons (mop2 false oAdd (mfun false fList (mcons (mvar 1) mnil)) (mlst false (mcons (mc (.str "a")) (mcons (mc (.str "bc")) (mcons (mc (.str "d")) mnil))))) mnil)))) (gname 6))
  (sSeq (sAsg (mop2 false oAdd (mtup (mcons (mvar 4) mnil)) (mfun false fTuple (mcons (mop2 false oAdd (mvar 6) (mop2 false oMul (mlst false (mcons (mcall F__law_text 1 [] (mcons (mvar 0) mnil)) mnil)) (mcall F__law_draw 2 [] (mcons (mvar 0) (mcons (mc (.int 2)) mnil))))) mnil))) (gname 7))
  (sRet (mite (mandT (mbl (mop2 false oEq (mvar 2) (mc (.int 3)))) (mbl (mop2 false oEq (mcall F__law_draw 2 [] (mcons (mvar 0) (mcons (mc (.int 4)) mnil))) (mc (.int 0))))) (mfun false fList (mcons (mvar 7) mnil)) (mvar 7)))))))))))
def F__law_value : FunT := runB 10 m__law_value
theorem ok__law_value {f : Addr} {fd : FuncData} {dvs : List V} {kws : List (Str × V)} (T : TX C mg) (c__law_draw_2 : CallOk C P w mg base CX0 1 "_law_draw" 2 F__law_draw []) (c__law_odd_1 : CallOk C P w mg base CX0 3 "_law_odd" 1 F__law_odd []) (c__law_text_1 : CallOk C P w mg base CX0 3 "_law_text" 1 F__law_text []) (c__law_choice_2 : CallOk C P w mg base CX0 2 "_law_choice" 2 F__law_choice []) (FD : FunD C.K "_law_value" "_law_value" (defArgs st__law_value) (defBody st__law_value) (defScope st__law_value) dvs kws f fd) : FnG P w C.K mg base CX0 4 f fd ["_law_rng_here", "_law_around"] (spM C 2 F__law_value) :=
  fn_ok (k := 3) (m := m__law_value) FD sc__law_value rfl rfl rfl fun cdv A outer s H E hr =>
  (evss_cons (evs_asg (ev_user rfl c__law_draw_2 hr rfl rfl (fun _ => passAt0) (evl_cons (ev_pv rfl rfl rfl rfl) (evl_cons ev_int evl_nil rfl) rfl) rfl rfl) (evg_n (i := 2) sc__law_value.nd rfl rfl) rfl)
  (evss_cons (evs_if (evt_cmp (ops_eq rfl hr.room64) (ev_pv rfl rfl rfl rfl) ev_int rfl) (evss_one (evs_ret (ev_user rfl c__law_odd_1 hr rfl rfl (fun _ => passAt0) (evl_cons (ev_pv rfl rfl rfl rfl) evl_nil rfl) rfl rfl))) evss_nil)
  (evss_cons (evs_if (evt_cmp (ops_eq rfl hr.room64) (ev_pv rfl rfl rfl rfl) ev_int rfl) (evss_one (evs_ret (ev_user rfl c__law_text_1 hr rfl rfl (fun _ => passAt0) (evl_cons (ev_pv rfl rfl rfl rfl) evl_nil rfl) rfl rfl))) evss_nil)
  (evss_cons (evs_if (evt_cmp (ops_eq rfl hr.room64) (ev_pv rfl rfl rfl rfl) ev_int rfl) (evss_cons (evs_setC (i := 3) (own := [("_law_k", 8)]) rfl sc__law_value.nd (by decide) rfl rfl (sw_true rfl rfl rfl rfl) (ev_rng1 T.z_range rfl (ev_user rfl c__law_draw_2 hr rfl rfl (fun _ => passAt0) (evl_cons (ev_pv rfl rfl rfl rfl) (evl_cons ev_int evl_nil rfl) rfl) rfl rfl) rfl) (blkOk_by rfl) (fun s H Cc cl fp => (evg_n (i := 8) sc__law_value.nd rfl rfl)) (fun s H Cc cl fp => pts_nil) yes_t (fun s H Cc cl fp => (ev_lst (evl_cons (ev_user rfl c__law_draw_2 hr rfl rfl (fun _ => passAt0) (evl_cons (ev_pv rfl rfl rfl rfl) (evl_cons ev_int evl_nil rfl) rfl) rfl rfl) (evl_cons (ev_user rfl c__law_draw_2 hr rfl rfl (fun _ => passAt0) (evl_cons (ev_pv rfl rfl rfl rfl) (evl_cons ev_int evl_nil rfl) rfl) rfl rfl) (evl_cons (ev_bin ops_pow ev_int ev_int) evl_nil rfl) rfl) rfl))) fun _ => rfl)
  (evss_one (evs_ret (ev_T (fn_tuple rfl) T.z_tuple rfl bt_tuple (evl_cons (ev_comp (own := [("_law_row", 9)]) rfl sc__law_value.nd (by decide) (evi_seq rfl (ev_pv rfl rfl rfl rfl)) (blkOk_by rfl) (fun s H Cc cl fp => (evg_n (i := 9) sc__law_value.nd rfl rfl)) (fun s H Cc cl fp => pts_nil) yes_t (fun s H Cc cl fp => (ev_ix (ix_ok rfl) (ev_pv rfl rfl rfl rfl) (ev_user rfl c__law_draw_2 hr rfl rfl (fun _ => passAt0) (evl_cons (ev_pv rfl rfl rfl rfl) (evl_cons ev_int evl_nil rfl) rfl) rfl rfl) fun _ _ => rfl)) fun _ => rfl) evl_nil rfl) rfl rfl rfl)))) evss_nil)
  (evss_cons (evs_asg (ev_user rfl c__law_choice_2 hr rfl rfl (fun _ => passAt0) (evl_cons (ev_pv rfl rfl rfl rfl) (evl_cons (ev_lst (evl_cons (ev_str rfl) (evl_cons (ev_str rfl) (evl_cons (ev_str rfl) (evl_cons (ev_str rfl) (evl_cons (ev_str rfl) (evl_cons (ev_str rfl) (evl_cons (ev_str rfl) (evl_cons (ev_str rfl) evl_nil rfl) rfl) rfl) rfl) rfl) rfl) rfl) rfl)) evl_nil rfl) rfl) rfl rfl) (evg_n (i := 4) sc__law_value.nd rfl rfl) rfl)
  (evss_cons (evs_asg (ev_ix (ix_ok rfl) (ev_lst (evl_cons ev_int (evl_cons ev_int (evl_cons ev_int (evl_cons ev_int (evl_cons ev_int (evl_cons ev_int evl_nil rfl) rfl) rfl) rfl) rfl) rfl)) (ev_user rfl c__law_draw_2 hr rfl rfl (fun _ => passAt0) (evl_cons (ev_pv rfl rfl rfl rfl) (evl_cons ev_int evl_nil rfl) rfl) rfl rfl) fun _ _ => rfl) (evg_n (i := 5) sc__law_value.nd rfl rfl) rfl)
  (evss_cons (evs_setC (i := 6) (own := [("_law_k", 8)]) rfl sc__law_value.nd (by decide) rfl rfl (sw_true rfl rfl rfl rfl) (ev_rng1 T.z_range rfl (ev_pv rfl rfl rfl rfl) rfl) (blkOk_by rfl) (fun s H Cc cl fp => (evg_n (i := 8) sc__law_value.nd rfl rfl)) (fun s H Cc cl fp => pts_nil) yes_t (fun s H Cc cl fp => (ev_user rfl c__law_choice_2 hr rfl rfl (fun _ => passAt0) (evl_cons (ev_pv rfl rfl rfl rfl) (evl_cons (ev_bin (ops_add rfl) (ev_T (fn_list rfl) T.z_list rfl bt_list (evl_cons (ev_pv rfl rfl rfl rfl) evl_nil rfl) rfl rfl rfl) (ev_lst (evl_cons (ev_str rfl) (evl_cons (ev_str rfl) (evl_cons (ev_str rfl) evl_nil rfl) rfl) rfl))) evl_nil rfl) rfl) rfl rfl)) fun _ => rfl)
  (evss_cons (evs_asg (ev_bin (ops_add rfl) (ev_tup (evl_cons (ev_pv rfl rfl rfl rfl) evl_nil rfl)) (ev_T (fn_tuple rfl) T.z_tuple rfl bt_tuple (evl_cons (ev_bin (ops_add rfl) (ev_pv rfl rfl rfl rfl) (ev_bin (ops_mul rfl) (ev_lst (evl_cons (ev_user rfl c__law_text_1 hr rfl rfl (fun _ => passAt0) (evl_cons (ev_pv rfl rfl rfl rfl) evl_nil rfl) rfl rfl) evl_nil rfl)) (ev_user rfl c__law_draw_2 hr rfl rfl (fun _ => passAt0) (evl_cons (ev_pv rfl rfl rfl rfl) (evl_cons ev_int evl_nil rfl) rfl) rfl rfl))) evl_nil rfl) rfl rfl rfl)) (evg_n (i := 7) sc__law_value.nd rfl rfl) rfl)
  (evss_one (evs_ret (ev_ite ((evt_and (evt_cmp (ops_eq rfl hr.room64) (ev_pv rfl rfl rfl rfl) ev_int rfl) (pw_and1 (evt_cmp (ops_eq rfl hr.room64) (ev_user rfl c__law_draw_2 hr rfl rfl (fun _ => passAt0) (evl_cons (ev_pv rfl rfl rfl rfl) (evl_cons ev_int evl_nil rfl) rfl) rfl rfl) ev_int rfl)))).pt (ev_T (fn_list rfl) T.z_list rfl bt_list (evl_cons (ev_pv rfl rfl rfl rfl) evl_nil rfl) rfl rfl rfl) (ev_pv rfl rfl rfl rfl))))))))))))
abbrev st__law_is_right : Stmt := top 33
theorem sc__law_is_right : FnScope ["_law_value_here", "_law_around", "_law_due", "_law_shown", "_law_turn", "_law_told"] ["_law_value_here", "_law_around"] (defScope st__law_is_right) := ⟨rfl, rfl, rfl, by decide +kernel, rfl, by decide +kernel, by decide +kernel⟩
def m__law_is_right : MS := (sSeq (sAsg (mlst false (mcons (mcall F__law_is_small 1 [] (mcons (mvar 0) mnil)) (mcons (mcall F__law_is_great 1 [] (mcons (mvar 0) mnil)) (mcons (mcall F__law_is_spot 1 [] (mcons (mvar 0) mnil)) (mcons (mcall F__law_is_small 1 [] (mcons (mvar 0) mnil)) mnil))))) (gname 2))
  (sSeq (sAsg (mop2 false oAdd (mvar 2) (mlst false (mcons (mcall F__law_is_fit 2 [] (mcons (mvar 0) (mcons (mvar 1) mnil))) (mcons (mcall F__law_is_way 4 [] (mcons (mvar 0) (mcons (mtup mnil) (mcons (mc (.bl false)) (mcons (mc (.int 0)) mnil))))) (mcons (mcall F__law_is_way 4 [] (mcons (mvar 0) (mcons (mvar 1) (mcons (mc (.bl false)) (mcons (mc (.int 0)) mnil))))) mnil))))) (gname 2))
  (sSeq (sAsg (mop2 false oAdd (mvar 2) (mlst false (mcons (mcall F__law_is_way 4 [] (mcons (mvar 0) (mcons (mtup mnil) (mcons (mc (.bl true)) (mcons (mc (.int 0)) mnil))))) (mcons (mcall F__law_is_way 4 [] (mcons (mvar 0) (mcons (mvar 1) (mcons (mc (.bl true)) (mcons (mc (.int 0)) mnil))))) mnil)))) (gname 2))
  (sSeq (sAsg (mfun false fRepr (mcons (mlst false (mcons (mvar 0) (mcons (mvar 1) mnil))) mnil)) (gname 3))
  (sSeq (sFor (irng irange1 (mcons (mc (.int 2)) mnil)) (gname 4) (sSeq (sAsg (mlst false (mcons (mcall F_is_name 1 [] (mcons (mvar 0) mnil)) (mcons (mcall F_is_parameter 1 [] (mcons (mvar 0) mnil)) (mcons (mcall F_is_place 1 [] (mcons (mvar 0) mnil)) (mcons (mcall F_is_word 2 [(.tup [])] (mcons (mvar 0) mnil)) mnil))))) (gname 5))
  (sSeq (sAsg (mop2 false oAdd (mvar 5) (mlst false (mcons (mcall F_is_word 2 [] (mcons (mvar 0) (mcons (mvar 1) mnil))) (mcons (mcall F_is_path 3 [(.tup []), (.bl false)] (mcons (mvar 0) mnil)) (mcons (mcall F_is_path 3 [(.bl false)] (mcons (mvar 0) (mcons (mvar 1) mnil))) mnil))))) (gname 5))
  (sSeq (sAsg (mop2 false oAdd (mvar 5) (mlst false (mcons (mcallN F_is_path 3 1 1 gk_is_path_1_in_macro (mcons (mvar 0) mnil) (mcons (mc (.bl true)) mnil)) (mcons (mcallN F_is_path 3 2 1 gk_is_path_2_in_macro (mcons (mvar 0) (mcons (mvar 1) mnil)) (mcons (mc (.bl true)) mnil)) mnil)))) (gname 5))
  (sIf (mbl (mop2 false oNe (mfun false fRepr (mcons (mvar 5) mnil)) (mfun false fRepr (mcons (mvar 2) mnil)))) (sRet (mc (.bl false))) sPass)))))
  (sRet (mop2 false oEq (mfun false fRepr (mcons (mlst false (mcons (mvar 0) (mcons (mvar 1) mnil))) mnil)) (mvar 3))))))))
def F__law_is_right : FunT := runB 6 m__law_is_right
theorem ok__law_is_right {f : Addr} {fd : FuncData} {dvs : List V} {kws : List (Str × V)} (T : TX C mg) (c__law_is_small_1 : CallOk C P w mg base CX0 2 "_law_is_small" 1 F__law_is_small []) (c__law_is_spot_1 : CallOk C P w mg base CX0 2 "_law_is_spot" 1 F__law_is_spot []) (c__law_is_great_1 : CallOk C P w mg base CX0 2 "_law_is_great" 1 F__law_is_great []) (c__law_is_way_4 : CallOk C P w mg base CX0 4 "_law_is_way" 4 F__law_is_way []) (c__law_is_fit_2 : CallOk C P w mg base CX0 3 "_law_is_fit" 2 F__law_is_fit []) (c_is_word_1 : CallOk C P w mg base CX0 3 "is_word" 2 F_is_word [(.tup [])]) (c_is_place_1 : CallOk C P w mg base CX0 3 "is_place" 1 F_is_place []) (c_is_parameter_1 : CallOk C P w mg base CX0 2 "is_parameter" 1 F_is_parameter []) (c_is_name_1 : CallOk C P w mg base CX0 2 "is_name" 1 F_is_name []) (c_is_path_2 : CallOk C P w mg base CX0 4 "is_path" 3 F_is_path [(.bl false)]) (c_is_path_1 : CallOk C P w mg base CX0 4 "is_path" 3 F_is_path [(.tup []), (.bl false)]) (c_is_word_2 : CallOk C P w mg base CX0 3 "is_word" 2 F_is_word []) (cgk_is_path_2_in_macro : CallKw C P w mg base CX0 4 "is_path" 3 F_is_path 2 ["in_macro"] gk_is_path_2_in_macro) (cgk_is_path_1_in_macro : CallKw C P w mg base CX0 4 "is_path" 3 F_is_path 1 ["in_macro"] gk_is_path_1_in_macro) (FD : FunD C.K "_law_is_right" "_law_is_right" (defArgs st__law_is_right) (defBody st__law_is_right) (defScope st__law_is_right) dvs kws f fd) : FnG P w C.K mg base CX0 5 f fd ["_law_value_here", "_law_around"] (spM C 2 F__law_is_right) :=
  fn_ok (k := 4) (m := m__law_is_right) FD sc__law_is_right rfl rfl rfl fun cdv A outer s H E hr =>
  (evss_cons (evs_asg (ev_lst (evl_cons (ev_user rfl c__law_is_small_1 hr rfl rfl (fun _ => passAt0) (evl_cons (ev_pv rfl rfl rfl rfl) evl_nil rfl) rfl rfl) (evl_cons (ev_user rfl c__law_is_great_1 hr rfl rfl (fun _ => passAt0) (evl_cons (ev_pv rfl rfl rfl rfl) evl_nil rfl) rfl rfl) (evl_cons (ev_user rfl c__law_is_spot_1 hr rfl rfl (fun _ => passAt0) (evl_cons (ev_pv rfl rfl rfl rfl) evl_nil rfl) rfl rfl) (evl_cons (ev_user rfl c__law_is_small_1 hr rfl rfl (fun _ => passAt0) (evl_cons (ev_pv rfl rfl rfl rfl) evl_nil rfl) rfl rfl) evl_nil rfl) rfl) rfl) rfl)) (evg_n (i := 2) sc__law_is_right.nd rfl rfl) rfl)
  (evss_cons (evs_asg (ev_bin (ops_add rfl) (ev_pv rfl rfl rfl rfl) (ev_lst (evl_cons (ev_user rfl c__law_is_fit_2 hr rfl rfl (fun _ => passAt0) (evl_cons (ev_pv rfl rfl rfl rfl) (evl_cons (ev_pv rfl rfl rfl rfl) evl_nil rfl) rfl) rfl rfl) (evl_cons (ev_user rfl c__law_is_way_4 hr rfl rfl (fun _ => passAt0) (evl_cons (ev_pv rfl rfl rfl rfl) (evl_cons (ev_tup evl_nil) (evl_cons ev_bl (evl_cons ev_int evl_nil rfl) rfl) rfl) rfl) rfl rfl) (evl_cons (ev_user rfl c__law_is_way_4 hr rfl rfl (fun _ => passAt0) (evl_cons (ev_pv rfl rfl rfl rfl) (evl_cons (ev_pv rfl rfl rfl rfl) (evl_cons ev_bl (evl_cons ev_int evl_nil rfl) rfl) rfl) rfl) rfl rfl) evl_nil rfl) rfl) rfl))) (evg_n (i := 2) sc__law_is_right.nd rfl rfl) rfl)
  (evss_cons (evs_asg (ev_bin (ops_add rfl) (ev_pv rfl rfl rfl rfl) (ev_lst (evl_cons (ev_user rfl c__law_is_way_4 hr rfl rfl (fun _ => passAt0) (evl_cons (ev_pv rfl rfl rfl rfl) (evl_cons (ev_tup evl_nil) (evl_cons ev_bl (evl_cons ev_int evl_nil rfl) rfl) rfl) rfl) rfl rfl) (evl_cons (ev_user rfl c__law_is_way_4 hr rfl rfl (fun _ => passAt0) (evl_cons (ev_pv rfl rfl rfl rfl) (evl_cons (ev_pv rfl rfl rfl rfl) (evl_cons ev_bl (evl_cons ev_int evl_nil rfl) rfl) rfl) rfl) rfl rfl) evl_nil rfl) rfl))) (evg_n (i := 2) sc__law_is_right.nd rfl rfl) rfl)
  (evss_cons (evs_asg (ev_B (fn_repr rfl hr.quiet hr.room64) T.z_repr rfl bb_repr (evl_cons (ev_lst (evl_cons (ev_pv rfl rfl rfl rfl) (evl_cons (ev_pv rfl rfl rfl rfl) evl_nil rfl) rfl)) evl_nil rfl) rfl rfl rfl) (evg_n (i := 3) sc__law_is_right.nd rfl rfl) rfl)
  (evss_cons (evs_for own_cx rfl (ev_rng1 T.z_range rfl ev_int rfl) (evg_n (i := 4) sc__law_is_right.nd rfl rfl) (evss_cons (evs_asg (ev_lst (evl_cons (ev_user rfl c_is_name_1 hr rfl rfl (fun _ => passAt0) (evl_cons (ev_pv rfl rfl rfl rfl) evl_nil rfl) rfl rfl) (evl_cons (ev_user rfl c_is_parameter_1 hr rfl rfl (fun _ => passAt0) (evl_cons (ev_pv rfl rfl rfl rfl) evl_nil rfl) rfl rfl) (evl_cons (ev_user rfl c_is_place_1 hr rfl rfl (fun _ => passAt0) (evl_cons (ev_pv rfl rfl rfl rfl) evl_nil rfl) rfl rfl) (evl_cons (ev_user rfl c_is_word_1 hr rfl rfl (fun _ => passAt0) (evl_cons (ev_pv rfl rfl rfl rfl) evl_nil rfl) rfl rfl) evl_nil rfl) rfl) rfl) rfl)) (evg_n (i := 5) sc__law_is_right.nd rfl rfl) rfl)
  (evss_cons (evs_asg (ev_bin (ops_add rfl) (ev_pv rfl rfl rfl rfl) (ev_lst (evl_cons (ev_user rfl c_is_word_2 hr rfl rfl (fun _ => passAt0) (evl_cons (ev_pv rfl rfl rfl rfl) (evl_cons (ev_pv rfl rfl rfl rfl) evl_nil rfl) rfl) rfl rfl) (evl_cons (ev_user rfl c_is_path_1 hr rfl rfl (fun _ => passAt0) (evl_cons (ev_pv rfl rfl rfl rfl) evl_nil rfl) rfl rfl) (evl_cons (ev_user rfl c_is_path_2 hr rfl rfl (fun _ => passAt0) (evl_cons (ev_pv rfl rfl rfl rfl) (evl_cons (ev_pv rfl rfl rfl rfl) evl_nil rfl) rfl) rfl rfl) evl_nil rfl) rfl) rfl))) (evg_n (i := 5) sc__law_is_right.nd rfl rfl) rfl)
  (evss_cons (evs_asg (ev_bin (ops_add rfl) (ev_pv rfl rfl rfl rfl) (ev_lst (evl_cons (ev_userN rfl cgk_is_path_1_in_macro hr rfl rfl (fun _ => passAt0) (evl_cons (ev_pv rfl rfl rfl rfl) evl_nil rfl) (evk_cons ev_bl evk_nil) rfl rfl rfl rfl rfl) (evl_cons (ev_userN rfl cgk_is_path_2_in_macro hr rfl rfl (fun _ => passAt0) (evl_cons (ev_pv rfl rfl rfl rfl) (evl_cons (ev_pv rfl rfl rfl rfl) evl_nil rfl) rfl) (evk_cons ev_bl evk_nil) rfl rfl rfl rfl rfl) evl_nil rfl) rfl))) (evg_n (i := 5) sc__law_is_right.nd rfl rfl) rfl)
  (evss_one (evs_if (evt_cmp (ops_ne rfl hr.room64) (ev_B (fn_repr rfl hr.quiet hr.room64) T.z_repr rfl bb_repr (evl_cons (ev_pv rfl rfl rfl rfl) evl_nil rfl) rfl rfl rfl) (ev_B (fn_repr rfl hr.quiet hr.room64) T.z_repr rfl bb_repr (evl_cons (ev_pv rfl rfl rfl rfl) evl_nil rfl) rfl rfl rfl) rfl) (evss_one (evs_ret ev_bl)) evss_nil))))) fun _ => rfl)
  (evss_one (evs_ret (ev_cmp (ops_eq rfl hr.room64) (ev_B (fn_repr rfl hr.quiet hr.room64) T.z_repr rfl bb_repr (evl_cons (ev_lst (evl_cons (ev_pv rfl rfl rfl rfl) (evl_cons (ev_pv rfl rfl rfl rfl) evl_nil rfl) rfl)) evl_nil rfl) rfl rfl rfl) (ev_pv rfl rfl rfl rfl) rfl))))))))
abbrev st__law_right : Stmt := top 34
theorem sc__law_right : FnScope ["_law_rng_here", "_law_some", "_law_around", "_law_turn", "_law_one"] ["_law_rng_here"] (defScope st__law_right) := ⟨rfl, rfl, rfl, by decide +kernel, rfl, by decide +kernel, by decide +kernel⟩
def m__law_right : MS := (sSeq (sAsg (mlst false (mcons (mc (.str "A")) (mcons (mc (.str "B")) (mcons (mc (.str "X")) (mcons (mc (.str "LONG")) (mcons (mc (.str "AB")) (mcons (mc (.str "ZZZZ")) mnil))))))) (gname 1))
  (sSeq (sAsg (mfun false fTuple (mcons (msl false (mcall F__law_shuffled 2 [] (mcons (mvar 0) (mcons (mvar 1) mnil))) (mpart none) (mpart (some (mcall F__law_draw 2 [] (mcons (mvar 0) (mcons (mc (.int 4)) mnil)))))) mnil)) (gname 2))
  (sSeq (sFor (irng irange1 (mcons (mc (.int 12)) mnil)) (gname 3) (sIf (mnotT (mtru (mcall F__law_is_right 2 [] (mcons (mcall F__law_value 2 [] (mcons (mvar 0) (mcons (mvar 2) mnil))) (mcons (mvar 2) mnil))))) (sRet (mc (.bl false))) sPass))
  (sSeq (sAsg (mop2 false oAdd (mfun false fList (mcons (mvar 2) mnil)) (mlst false (mcons (mc (.str "Q")) (mcons (mc (.str "a")) (mcons (mc (.str "")) (mcons (mc (.str "abcdefgh")) (mcons (mc (.str "abcdefghi")) (mcons (mc (.str "ABCDE")) (mcons (mtup (mcons (mc (.str "root")) (mcons (mc (.str "root")) (mcons (mc (.str "here")) (mcons (mc (.str "there")) mnil))))) mnil))))))))) (gname 1))
  (sSeq (sAsg (mop2 false oAdd (mvar 1) (mlst false (mcons (mtup (mcons (mc (.str "here")) (mcons (mc (.str "num")) (mcons (mc (.str "ref")) (mcons (mc (.str "mod")) mnil))))) (mcons (mtup (mcons (mc (.str "root")) (mcons (mc (.str "gap")) (mcons (mc (.str "call")) (mcons (mc (.str "fn")) mnil))))) (mcons (mtup (mcons (mc (.str "there")) (mcons (mc (.str "there")) mnil))) (mcons (mc (.str "macro")) (mcons (mc (.str "glob")) mnil))))))) (gname 1))
  (sRet (mfun false fAll (mcons (mcomp false [4] (iseq (mvar 1)) (gname 4) yes (mcall F__law_is_right 2 [] (mcons (mvar 4) (mcons (mvar 2) mnil)))) mnil))))))))
def F__law_right : FunT := runB 5 m__law_right
theorem ok__law_right {f : Addr} {fd : FuncData} {dvs : List V} {kws : List (Str × V)} (T : TX C mg) (c__law_shuffled_2 : CallOk C P w mg base CX0 2 "_law_shuffled" 2 F__law_shuffled []) (c__law_draw_2 : CallOk C P w mg base CX0 1 "_law_draw" 2 F__law_draw []) (c__law_is_right_2 : CallOk C P w mg base CX0 5 "_law_is_right" 2 F__law_is_right []) (c__law_value_2 : CallOk C P w mg base CX0 4 "_law_value" 2 F__law_value []) (FD : FunD C.K "_law_right" "_law_right" (defArgs st__law_right) (defBody st__law_right) (defScope st__law_right) dvs kws f fd) : FnG P w C.K mg base CX0 6 f fd ["_law_rng_here"] (spM C 1 F__law_right) :=
  fn_ok (k := 5) (m := m__law_right) FD sc__law_right rfl rfl rfl fun cdv A outer s H E hr =>
  (evss_cons (evs_asg (ev_lst (evl_cons (ev_str rfl) (evl_cons (ev_str rfl) (evl_cons (ev_str rfl) (evl_cons (ev_str rfl) (evl_cons (ev_str rfl) (evl_cons (ev_str rfl) evl_nil rfl) rfl) rfl) rfl) rfl) rfl)) (evg_n (i := 1) sc__law_right.nd rfl rfl) rfl)
  (evss_cons (evs_asg (ev_T (fn_tuple rfl) T.z_tuple rfl bt_tuple (evl_cons (ev_sl rfl (ev_user rfl c__law_shuffled_2 hr rfl rfl (fun _ => passAt0) (evl_cons (ev_pv rfl rfl rfl rfl) (evl_cons (ev_pv rfl rfl rfl rfl) evl_nil rfl) rfl) rfl rfl) evo_none (evo_some (ev_user rfl c__law_draw_2 hr rfl rfl (fun _ => passAt0) (evl_cons (ev_pv rfl rfl rfl rfl) (evl_cons ev_int evl_nil rfl) rfl) rfl rfl))) evl_nil rfl) rfl rfl rfl) (evg_c (i := 2) sc__law_right.nd rfl rfl rfl) rfl)
  (evss_cons (evs_for own_cx rfl (ev_rng1 T.z_range rfl ev_int rfl) (evg_n (i := 3) sc__law_right.nd rfl rfl) (evss_one (evs_if (evt_not (evt_tru rfl (ev_user rfl c__law_is_right_2 hr rfl rfl (fun _ => passAt0) (evl_cons (ev_user rfl c__law_value_2 hr rfl rfl (fun _ => passAt0) (evl_cons (ev_pv rfl rfl rfl rfl) (evl_cons (ev_pv rfl rfl rfl rfl) evl_nil rfl) rfl) rfl rfl) (evl_cons (ev_pv rfl rfl rfl rfl) evl_nil rfl) rfl) rfl rfl) rfl)) (evss_one (evs_ret ev_bl)) evss_nil)) fun _ => rfl)
  (evss_cons (evs_asg (ev_bin (ops_add rfl) (ev_T (fn_list rfl) T.z_list rfl bt_list (evl_cons (ev_pv rfl rfl rfl rfl) evl_nil rfl) rfl rfl rfl) (ev_lst (evl_cons (ev_str rfl) (evl_cons (ev_str rfl) (evl_cons (ev_str rfl) (evl_cons (ev_str rfl) (evl_cons (ev_str rfl) (evl_cons (ev_str rfl) (evl_cons (ev_tup (evl_cons (ev_str rfl) (evl_cons (ev_str rfl) (evl_cons (ev_str rfl) (evl_cons (ev_str rfl) evl_nil rfl) rfl) rfl) rfl)) evl_nil rfl) rfl) rfl) rfl) rfl) rfl) rfl))) (evg_n (i := 1) sc__law_right.nd rfl rfl) rfl)
  (evss_cons (evs_asg (ev_bin (ops_add rfl) (ev_pv rfl rfl rfl rfl) (ev_lst (evl_cons (ev_tup (evl_cons (ev_str rfl) (evl_cons (ev_str rfl) (evl_cons (ev_str rfl) (evl_cons (ev_str rfl) evl_nil rfl) rfl) rfl) rfl)) (evl_cons (ev_tup (evl_cons (ev_str rfl) (evl_cons (ev_str rfl) (evl_cons (ev_str rfl) (evl_cons (ev_str rfl) evl_nil rfl) rfl) rfl) rfl)) (evl_cons (ev_tup (evl_cons (ev_str rfl) (evl_cons (ev_str rfl) evl_nil rfl) rfl)) (evl_cons (ev_str rfl) (evl_cons (ev_str rfl) evl_nil rfl) rfl) rfl) rfl) rfl))) (evg_n (i := 1) sc__law_right.nd rfl rfl) rfl)
  (evss_one (evs_ret (ev_B (fn_all rfl rfl) T.z_all rfl bb_all (evl_cons (ev_comp (own := [("_law_one", 4)]) rfl sc__law_right.nd (by decide) (evi_seq rfl (ev_pv rfl rfl rfl rfl)) (blkOk_by rfl) (fun s H Cc cl fp => (evg_n (i := 4) sc__law_right.nd rfl rfl)) (fun s H Cc cl fp => pts_nil) yes_t (fun s H Cc cl fp => (ev_user rfl c__law_is_right_2 hr rfl rfl (fun _ => passAt0) (evl_cons (ev_pv rfl rfl rfl rfl) (evl_cons (ev_pv rfl rfl rfl rfl) evl_nil rfl) rfl) rfl rfl)) fun _ => rfl) evl_nil rfl) rfl rfl rfl))))))))
abbrev st_law : Stmt := top 35
theorem sc_law : FnScope ["_law_script", "_law_k"] ["_law_script"] (defScope st_law) := ⟨rfl, rfl, rfl, by decide +kernel, rfl, by decide +kernel, by decide +kernel⟩
def m_law : MS := (sRet (mfun false fAll (mcons (mcomp false [1] (irng irange1 (mcons (mfun false fMax (mcons (mc (.int 2)) (mcons (mfun false fMin (mcons (mc (.int 5)) (mcons (mfun false fLen (mcons (mvar 0) mnil)) mnil))) mnil))) mnil)) (gname 1) yes (mcall F__law_right 1 [] (mcons (mcall F__law_rng 2 [] (mcons (mvar 0) (mcons (mvar 1) mnil))) mnil))) mnil)))
def F_law : FunT := runB 2 m_law
theorem ok_law {f : Addr} {fd : FuncData} {dvs : List V} {kws : List (Str × V)} (T : TX C mg) (c__law_right_1 : CallOk C P w mg base CX0 6 "_law_right" 1 F__law_right []) (c__law_rng_2 : CallOk C P w mg base CX0 1 "_law_rng" 2 F__law_rng []) (FD : FunD C.K "law" "law" (defArgs st_law) (defBody st_law) (defScope st_law) dvs kws f fd) : FnG P w C.K mg base CX0 7 f fd ["_law_script"] (spM C 1 F_law) :=
  fn_ok (k := 6) (m := m_law) FD sc_law rfl rfl rfl fun cdv A outer s H E hr =>
  (evss_one (evs_ret (ev_B (fn_all rfl rfl) T.z_all rfl bb_all (evl_cons (ev_comp (own := [("_law_k", 1)]) rfl sc_law.nd (by decide) (ev_rng1 T.z_range rfl (ev_B (fn_max rfl) T.z_max rfl bb_max (evl_cons ev_int (evl_cons (ev_B (fn_min rfl) T.z_min rfl bb_min (evl_cons ev_int (evl_cons (ev_B (fn_len rfl) T.z_len rfl bb_len (evl_cons (ev_pv rfl rfl rfl rfl) evl_nil rfl) rfl rfl rfl) evl_nil rfl) rfl) rfl rfl rfl) evl_nil rfl) rfl) rfl rfl rfl) rfl) (blkOk_by rfl) (fun s H Cc cl fp => (evg_n (i := 1) sc_law.nd rfl rfl)) (fun s H Cc cl fp => pts_nil) yes_t (fun s H Cc cl fp => (ev_user rfl c__law_right_1 hr rfl rfl (fun _ => passAt0) (evl_cons (ev_user rfl c__law_rng_2 hr rfl rfl (fun _ => passAt0) (evl_cons (ev_pv rfl rfl rfl rfl) (evl_cons (ev_pv rfl rfl rfl rfl) evl_nil rfl) rfl) rfl rfl) evl_nil rfl) rfl rfl)) fun _ => rfl) evl_nil rfl) rfl rfl rfl)))
end
end EV


/-! K11b: what the readings compute, and that they agree. -/
namespace EV
open PySem PySem.Spec PyProof.Rows L2
def inS (c : Nat) (S : Str) : Bool := !(Builtin.Str.occurrences S ⟨#[c]⟩ 0 S.length 1).isEmpty
def madeB (S : Str) (m : Int) : D → Bool
  | .str z => decide (1 ≤ (z.length : Int)) && (decide ((z.length : Int) ≤ m) && (z.cps.toList.map fun c => inS c S).all id)
  | _ => false
theorem F_made (v : D) (hv : Fz v) (S : Str) (m : Int) (h : Hd) : F_is_made_of [v, .str S, .int m] h = .ok (.bl (madeB S m v)) h := by
  obtain ⟨t, ht⟩ := hv.ty
  cases v with
  | str z =>
    simp only [F_is_made_of, m_is_made_of, mc_at, mvar_at, mnil_at, mcons_at, mop1_at, mop2_at, mtup_at, mlst_at, mfun_at, mand_at, mor_at, mnot_at, mandT_at, morT_at, mnotT_at, mtru_at, mbl_at, mite_at, mchain_at, mcall_at, mcallN_at, mmeth_at, msl_at, mpart0, mpart1, mdic0_at, iseq_at, irng_at, mcomp_at, fin_none, fin_v, fin_newF, fin_newT, resM_some, resM_none, isLst_ref, lstOf_ref, lstOf_lst, seqOf_tup, seqOf_lst, seqOf_ref, seqOf_scr, truth_bl, ofE_at, ofT_at, sPass_at, sExpr_at, sRet_at, sRetN_at, sAsg_at, sIf_at, sSeq_at, sFor_at, forLoop_nil, forLoop_cons, gname_at, gtup_at, go_nil, go_cons, gstar_at, gsub_at, runB_at, startE_at, wipeE_nil, wipeE_cons, isi_at, len_at, all_lst, tuple_at, list_at, isN_eq, isN_ne, isN_in, isN_notIn, cmp_int, add_int, sub_int, mod_int, fdiv_int, mul_int, mul_lst, add_lst, add_refL, app_at, join_at, isStr_str, add_tup, add_str, int_bl, int_int, sl_tup, sl_lst, sl_str, pow_int, neg_int, ix_tup, ix_lst, ix_ref, ix_scr, Res.bind_ok, Res.bind_bad, Res.bind_exc, List.getElem?_cons_zero, List.getElem?_cons_succ, List.getElem?_nil, List.map_cons, List.map_nil, List.cons_append, List.nil_append, List.append_nil, List.length_cons, List.length_nil, List.set_cons_zero, List.set_cons_succ, Option.map_some, Option.map_none, Option.isSome_some, List.replicate_succ, List.replicate_zero, if_true, if_false, reduceIte, Nat.reduceAdd, Nat.reduceSub, Nat.reduceLeDiff, Nat.reduceEqDiff, Nat.reduceLT, Bool.false_eq_true, and_self, and_true, true_and, List.drop_succ_cons, List.drop_zero, List.take_succ_cons, List.take_zero, Nat.zero_add, Nat.add_zero, Bool.not_true, Bool.not_false, Nat.sub_self, Nat.le_refl, Int.reduceLT, Int.reduceNeg, Nat.reducePow, Int.reducePow, Int.reduceToNat, Int.reduceAdd, Int.reduceSub, Int.reduceLE, Int.cast_ofNat_Int, Int.reduceBEq, List.flatten_cons, List.flatten_nil, Nat.reduceMul, Nat.one_mul, Nat.mul_one, Nat.mul_zero, Nat.zero_le, Int.reduceMul, tyOf, isSub, lenOf, itemsOf, madeB]
    by_cases h1 : 1 ≤ (z.length : Int)
    · simp only [h1, decide_true, mc_at, mvar_at, mnil_at, mcons_at, mop1_at, mop2_at, mtup_at, mlst_at, mfun_at, mand_at, mor_at, mnot_at, mandT_at, morT_at, mnotT_at, mtru_at, mbl_at, mite_at, mchain_at, mcall_at, mcallN_at, mmeth_at, msl_at, mpart0, mpart1, mdic0_at, iseq_at, irng_at, mcomp_at, fin_none, fin_v, fin_newF, fin_newT, resM_some, resM_none, isLst_ref, lstOf_ref, lstOf_lst, seqOf_tup, seqOf_lst, seqOf_ref, seqOf_scr, truth_bl, ofE_at, ofT_at, sPass_at, sExpr_at, sRet_at, sRetN_at, sAsg_at, sIf_at, sSeq_at, sFor_at, forLoop_nil, forLoop_cons, gname_at, gtup_at, go_nil, go_cons, gstar_at, gsub_at, runB_at, startE_at, wipeE_nil, wipeE_cons, isi_at, len_at, all_lst, tuple_at, list_at, isN_eq, isN_ne, isN_in, isN_notIn, cmp_int, add_int, sub_int, mod_int, fdiv_int, mul_int, mul_lst, add_lst, add_refL, app_at, join_at, isStr_str, add_tup, add_str, int_bl, int_int, sl_tup, sl_lst, sl_str, pow_int, neg_int, ix_tup, ix_lst, ix_ref, ix_scr, Res.bind_ok, Res.bind_bad, Res.bind_exc, List.getElem?_cons_zero, List.getElem?_cons_succ, List.getElem?_nil, List.map_cons, List.map_nil, List.cons_append, List.nil_append, List.append_nil, List.length_cons, List.length_nil, List.set_cons_zero, List.set_cons_succ, Option.map_some, Option.map_none, Option.isSome_some, List.replicate_succ, List.replicate_zero, if_true, if_false, reduceIte, Nat.reduceAdd, Nat.reduceSub, Nat.reduceLeDiff, Nat.reduceEqDiff, Nat.reduceLT, Bool.false_eq_true, and_self, and_true, true_and, List.drop_succ_cons, List.drop_zero, List.take_succ_cons, List.take_zero, Nat.zero_add, Nat.add_zero, Bool.not_true, Bool.not_false, Nat.sub_self, Nat.le_refl, Int.reduceLT, Int.reduceNeg, Nat.reducePow, Int.reducePow, Int.reduceToNat, Int.reduceAdd, Int.reduceSub, Int.reduceLE, Int.cast_ofNat_Int, Int.reduceBEq, List.flatten_cons, List.flatten_nil, Nat.reduceMul, Nat.one_mul, Nat.mul_one, Nat.mul_zero, Nat.zero_le, Int.reduceMul]
      by_cases h2 : (z.length : Int) ≤ m
      · simp only [h2, decide_true, mc_at, mvar_at, mnil_at, mcons_at, mop1_at, mop2_at, mtup_at, mlst_at, mfun_at, mand_at, mor_at, mnot_at, mandT_at, morT_at, mnotT_at, mtru_at, mbl_at, mite_at, mchain_at, mcall_at, mcallN_at, mmeth_at, msl_at, mpart0, mpart1, mdic0_at, iseq_at, irng_at, mcomp_at, fin_none, fin_v, fin_newF, fin_newT, resM_some, resM_none, isLst_ref, lstOf_ref, lstOf_lst, seqOf_tup, seqOf_lst, seqOf_ref, seqOf_scr, truth_bl, ofE_at, ofT_at, sPass_at, sExpr_at, sRet_at, sRetN_at, sAsg_at, sIf_at, sSeq_at, sFor_at, forLoop_nil, forLoop_cons, gname_at, gtup_at, go_nil, go_cons, gstar_at, gsub_at, runB_at, startE_at, wipeE_nil, wipeE_cons, isi_at, len_at, all_lst, tuple_at, list_at, isN_eq, isN_ne, isN_in, isN_notIn, cmp_int, add_int, sub_int, mod_int, fdiv_int, mul_int, mul_lst, add_lst, add_refL, app_at, join_at, isStr_str, add_tup, add_str, int_bl, int_int, sl_tup, sl_lst, sl_str, pow_int, neg_int, ix_tup, ix_lst, ix_ref, ix_scr, Res.bind_ok, Res.bind_bad, Res.bind_exc, List.getElem?_cons_zero, List.getElem?_cons_succ, List.getElem?_nil, List.map_cons, List.map_nil, List.cons_append, List.nil_append, List.append_nil, List.length_cons, List.length_nil, List.set_cons_zero, List.set_cons_succ, Option.map_some, Option.map_none, Option.isSome_some, List.replicate_succ, List.replicate_zero, if_true, if_false, reduceIte, Nat.reduceAdd, Nat.reduceSub, Nat.reduceLeDiff, Nat.reduceEqDiff, Nat.reduceLT, Bool.false_eq_true, and_self, and_true, true_and, List.drop_succ_cons, List.drop_zero, List.take_succ_cons, List.take_zero, Nat.zero_add, Nat.add_zero, Bool.not_true, Bool.not_false, Nat.sub_self, Nat.le_refl, Int.reduceLT, Int.reduceNeg, Nat.reducePow, Int.reducePow, Int.reduceToNat, Int.reduceAdd, Int.reduceSub, Int.reduceLE, Int.cast_ofNat_Int, Int.reduceBEq, List.flatten_cons, List.flatten_nil, Nat.reduceMul, Nat.one_mul, Nat.mul_one, Nat.mul_zero, Nat.zero_le, Int.reduceMul]
        rw [comp_mapm (f := fun c => .bl (inS c S)) fun c _ => by simp only [mc_at, mvar_at, mnil_at, mcons_at, mop1_at, mop2_at, mtup_at, mlst_at, mfun_at, mand_at, mor_at, mnot_at, mandT_at, morT_at, mnotT_at, mtru_at, mbl_at, mite_at, mchain_at, mcall_at, mcallN_at, mmeth_at, msl_at, mpart0, mpart1, mdic0_at, iseq_at, irng_at, mcomp_at, fin_none, fin_v, fin_newF, fin_newT, resM_some, resM_none, isLst_ref, lstOf_ref, lstOf_lst, seqOf_tup, seqOf_lst, seqOf_ref, seqOf_scr, truth_bl, ofE_at, ofT_at, sPass_at, sExpr_at, sRet_at, sRetN_at, sAsg_at, sIf_at, sSeq_at, sFor_at, forLoop_nil, forLoop_cons, gname_at, gtup_at, go_nil, go_cons, gstar_at, gsub_at, runB_at, startE_at, wipeE_nil, wipeE_cons, isi_at, len_at, all_lst, tuple_at, list_at, isN_eq, isN_ne, isN_in, isN_notIn, cmp_int, add_int, sub_int, mod_int, fdiv_int, mul_int, mul_lst, add_lst, add_refL, app_at, join_at, isStr_str, add_tup, add_str, int_bl, int_int, sl_tup, sl_lst, sl_str, pow_int, neg_int, ix_tup, ix_lst, ix_ref, ix_scr, Res.bind_ok, Res.bind_bad, Res.bind_exc, List.getElem?_cons_zero, List.getElem?_cons_succ, List.getElem?_nil, List.map_cons, List.map_nil, List.cons_append, List.nil_append, List.append_nil, List.length_cons, List.length_nil, List.set_cons_zero, List.set_cons_succ, Option.map_some, Option.map_none, Option.isSome_some, List.replicate_succ, List.replicate_zero, if_true, if_false, reduceIte, Nat.reduceAdd, Nat.reduceSub, Nat.reduceLeDiff, Nat.reduceEqDiff, Nat.reduceLT, Bool.false_eq_true, and_self, and_true, true_and, List.drop_succ_cons, List.drop_zero, List.take_succ_cons, List.take_zero, Nat.zero_add, Nat.add_zero, Bool.not_true, Bool.not_false, Nat.sub_self, Nat.le_refl, Int.reduceLT, Int.reduceNeg, Nat.reducePow, Int.reducePow, Int.reduceToNat, Int.reduceAdd, Int.reduceSub, Int.reduceLE, Int.cast_ofNat_Int, Int.reduceBEq, List.flatten_cons, List.flatten_nil, Nat.reduceMul, Nat.one_mul, Nat.mul_one, Nat.mul_zero, Nat.zero_le, Int.reduceMul, isIn]; rfl]
        simp only [mc_at, mvar_at, mnil_at, mcons_at, mop1_at, mop2_at, mtup_at, mlst_at, mfun_at, mand_at, mor_at, mnot_at, mandT_at, morT_at, mnotT_at, mtru_at, mbl_at, mite_at, mchain_at, mcall_at, mcallN_at, mmeth_at, msl_at, mpart0, mpart1, mdic0_at, iseq_at, irng_at, mcomp_at, fin_none, fin_v, fin_newF, fin_newT, resM_some, resM_none, isLst_ref, lstOf_ref, lstOf_lst, seqOf_tup, seqOf_lst, seqOf_ref, seqOf_scr, truth_bl, ofE_at, ofT_at, sPass_at, sExpr_at, sRet_at, sRetN_at, sAsg_at, sIf_at, sSeq_at, sFor_at, forLoop_nil, forLoop_cons, gname_at, gtup_at, go_nil, go_cons, gstar_at, gsub_at, runB_at, startE_at, wipeE_nil, wipeE_cons, isi_at, len_at, all_lst, tuple_at, list_at, isN_eq, isN_ne, isN_in, isN_notIn, cmp_int, add_int, sub_int, mod_int, fdiv_int, mul_int, mul_lst, add_lst, add_refL, app_at, join_at, isStr_str, add_tup, add_str, int_bl, int_int, sl_tup, sl_lst, sl_str, pow_int, neg_int, ix_tup, ix_lst, ix_ref, ix_scr, Res.bind_ok, Res.bind_bad, Res.bind_exc, List.getElem?_cons_zero, List.getElem?_cons_succ, List.getElem?_nil, List.map_cons, List.map_nil, List.cons_append, List.nil_append, List.append_nil, List.length_cons, List.length_nil, List.set_cons_zero, List.set_cons_succ, Option.map_some, Option.map_none, Option.isSome_some, List.replicate_succ, List.replicate_zero, if_true, if_false, reduceIte, Nat.reduceAdd, Nat.reduceSub, Nat.reduceLeDiff, Nat.reduceEqDiff, Nat.reduceLT, Bool.false_eq_true, and_self, and_true, true_and, List.drop_succ_cons, List.drop_zero, List.take_succ_cons, List.take_zero, Nat.zero_add, Nat.add_zero, Bool.not_true, Bool.not_false, Nat.sub_self, Nat.le_refl, Int.reduceLT, Int.reduceNeg, Nat.reducePow, Int.reducePow, Int.reduceToNat, Int.reduceAdd, Int.reduceSub, Int.reduceLE, Int.cast_ofNat_Int, Int.reduceBEq, List.flatten_cons, List.flatten_nil, Nat.reduceMul, Nat.one_mul, Nat.mul_one, Nat.mul_zero, Nat.zero_le, Int.reduceMul, bls_map, Bool.true_and]
      · simp only [h2, decide_false, mc_at, mvar_at, mnil_at, mcons_at, mop1_at, mop2_at, mtup_at, mlst_at, mfun_at, mand_at, mor_at, mnot_at, mandT_at, morT_at, mnotT_at, mtru_at, mbl_at, mite_at, mchain_at, mcall_at, mcallN_at, mmeth_at, msl_at, mpart0, mpart1, mdic0_at, iseq_at, irng_at, mcomp_at, fin_none, fin_v, fin_newF, fin_newT, resM_some, resM_none, isLst_ref, lstOf_ref, lstOf_lst, seqOf_tup, seqOf_lst, seqOf_ref, seqOf_scr, truth_bl, ofE_at, ofT_at, sPass_at, sExpr_at, sRet_at, sRetN_at, sAsg_at, sIf_at, sSeq_at, sFor_at, forLoop_nil, forLoop_cons, gname_at, gtup_at, go_nil, go_cons, gstar_at, gsub_at, runB_at, startE_at, wipeE_nil, wipeE_cons, isi_at, len_at, all_lst, tuple_at, list_at, isN_eq, isN_ne, isN_in, isN_notIn, cmp_int, add_int, sub_int, mod_int, fdiv_int, mul_int, mul_lst, add_lst, add_refL, app_at, join_at, isStr_str, add_tup, add_str, int_bl, int_int, sl_tup, sl_lst, sl_str, pow_int, neg_int, ix_tup, ix_lst, ix_ref, ix_scr, Res.bind_ok, Res.bind_bad, Res.bind_exc, List.getElem?_cons_zero, List.getElem?_cons_succ, List.getElem?_nil, List.map_cons, List.map_nil, List.cons_append, List.nil_append, List.append_nil, List.length_cons, List.length_nil, List.set_cons_zero, List.set_cons_succ, Option.map_some, Option.map_none, Option.isSome_some, List.replicate_succ, List.replicate_zero, if_true, if_false, reduceIte, Nat.reduceAdd, Nat.reduceSub, Nat.reduceLeDiff, Nat.reduceEqDiff, Nat.reduceLT, Bool.false_eq_true, and_self, and_true, true_and, List.drop_succ_cons, List.drop_zero, List.take_succ_cons, List.take_zero, Nat.zero_add, Nat.add_zero, Bool.not_true, Bool.not_false, Nat.sub_self, Nat.le_refl, Int.reduceLT, Int.reduceNeg, Nat.reducePow, Int.reducePow, Int.reduceToNat, Int.reduceAdd, Int.reduceSub, Int.reduceLE, Int.cast_ofNat_Int, Int.reduceBEq, List.flatten_cons, List.flatten_nil, Nat.reduceMul, Nat.one_mul, Nat.mul_one, Nat.mul_zero, Nat.zero_le, Int.reduceMul, Bool.true_and, Bool.false_and]
    · simp only [h1, decide_false, mc_at, mvar_at, mnil_at, mcons_at, mop1_at, mop2_at, mtup_at, mlst_at, mfun_at, mand_at, mor_at, mnot_at, mandT_at, morT_at, mnotT_at, mtru_at, mbl_at, mite_at, mchain_at, mcall_at, mcallN_at, mmeth_at, msl_at, mpart0, mpart1, mdic0_at, iseq_at, irng_at, mcomp_at, fin_none, fin_v, fin_newF, fin_newT, resM_some, resM_none, isLst_ref, lstOf_ref, lstOf_lst, seqOf_tup, seqOf_lst, seqOf_ref, seqOf_scr, truth_bl, ofE_at, ofT_at, sPass_at, sExpr_at, sRet_at, sRetN_at, sAsg_at, sIf_at, sSeq_at, sFor_at, forLoop_nil, forLoop_cons, gname_at, gtup_at, go_nil, go_cons, gstar_at, gsub_at, runB_at, startE_at, wipeE_nil, wipeE_cons, isi_at, len_at, all_lst, tuple_at, list_at, isN_eq, isN_ne, isN_in, isN_notIn, cmp_int, add_int, sub_int, mod_int, fdiv_int, mul_int, mul_lst, add_lst, add_refL, app_at, join_at, isStr_str, add_tup, add_str, int_bl, int_int, sl_tup, sl_lst, sl_str, pow_int, neg_int, ix_tup, ix_lst, ix_ref, ix_scr, Res.bind_ok, Res.bind_bad, Res.bind_exc, List.getElem?_cons_zero, List.getElem?_cons_succ, List.getElem?_nil, List.map_cons, List.map_nil, List.cons_append, List.nil_append, List.append_nil, List.length_cons, List.length_nil, List.set_cons_zero, List.set_cons_succ, Option.map_some, Option.map_none, Option.isSome_some, List.replicate_succ, List.replicate_zero, if_true, if_false, reduceIte, Nat.reduceAdd, Nat.reduceSub, Nat.reduceLeDiff, Nat.reduceEqDiff, Nat.reduceLT, Bool.false_eq_true, and_self, and_true, true_and, List.drop_succ_cons, List.drop_zero, List.take_succ_cons, List.take_zero, Nat.zero_add, Nat.add_zero, Bool.not_true, Bool.not_false, Nat.sub_self, Nat.le_refl, Int.reduceLT, Int.reduceNeg, Nat.reducePow, Int.reducePow, Int.reduceToNat, Int.reduceAdd, Int.reduceSub, Int.reduceLE, Int.cast_ofNat_Int, Int.reduceBEq, List.flatten_cons, List.flatten_nil, Nat.reduceMul, Nat.one_mul, Nat.mul_one, Nat.mul_zero, Nat.zero_le, Int.reduceMul, Bool.false_and]
  | _ =>
    simp only [F_is_made_of, m_is_made_of, mc_at, mvar_at, mnil_at, mcons_at, mop1_at, mop2_at, mtup_at, mlst_at, mfun_at, mand_at, mor_at, mnot_at, mandT_at, morT_at, mnotT_at, mtru_at, mbl_at, mite_at, mchain_at, mcall_at, mcallN_at, mmeth_at, msl_at, mpart0, mpart1, mdic0_at, iseq_at, irng_at, mcomp_at, fin_none, fin_v, fin_newF, fin_newT, resM_some, resM_none, isLst_ref, lstOf_ref, lstOf_lst, seqOf_tup, seqOf_lst, seqOf_ref, seqOf_scr, truth_bl, ofE_at, ofT_at, sPass_at, sExpr_at, sRet_at, sRetN_at, sAsg_at, sIf_at, sSeq_at, sFor_at, forLoop_nil, forLoop_cons, gname_at, gtup_at, go_nil, go_cons, gstar_at, gsub_at, runB_at, startE_at, wipeE_nil, wipeE_cons, isi_at, len_at, all_lst, tuple_at, list_at, isN_eq, isN_ne, isN_in, isN_notIn, cmp_int, add_int, sub_int, mod_int, fdiv_int, mul_int, mul_lst, add_lst, add_refL, app_at, join_at, isStr_str, add_tup, add_str, int_bl, int_int, sl_tup, sl_lst, sl_str, pow_int, neg_int, ix_tup, ix_lst, ix_ref, ix_scr, Res.bind_ok, Res.bind_bad, Res.bind_exc, List.getElem?_cons_zero, List.getElem?_cons_succ, List.getElem?_nil, List.map_cons, List.map_nil, List.cons_append, List.nil_append, List.append_nil, List.length_cons, List.length_nil, List.set_cons_zero, List.set_cons_succ, Option.map_some, Option.map_none, Option.isSome_some, List.replicate_succ, List.replicate_zero, if_true, if_false, reduceIte, Nat.reduceAdd, Nat.reduceSub, Nat.reduceLeDiff, Nat.reduceEqDiff, Nat.reduceLT, Bool.false_eq_true, and_self, and_true, true_and, List.drop_succ_cons, List.drop_zero, List.take_succ_cons, List.take_zero, Nat.zero_add, Nat.add_zero, Bool.not_true, Bool.not_false, Nat.sub_self, Nat.le_refl, Int.reduceLT, Int.reduceNeg, Nat.reducePow, Int.reducePow, Int.reduceToNat, Int.reduceAdd, Int.reduceSub, Int.reduceLE, Int.cast_ofNat_Int, Int.reduceBEq, List.flatten_cons, List.flatten_nil, Nat.reduceMul, Nat.one_mul, Nat.mul_one, Nat.mul_zero, Nat.zero_le, Int.reduceMul, ht, madeB]
    simp only [tyOf] at ht
    first | (have := ht []; cases this; rfl) | (obtain ⟨p, e⟩ := hv; simp only [toPy] at e; cases e)
abbrev LET : Str := "abcdefghijklmnopqrstuvwxyz"
abbrev CAP : Str := "ABCDEFGHIJKLMNOPQRSTUVWXYZ"
theorem F_name (v : D) (hv : Fz v) (h : Hd) : F_is_name [v] h = .ok (.bl (madeB LET 8 v)) h := by
  simp only [F_is_name, m_is_name, mc_at, mvar_at, mnil_at, mcons_at, mop1_at, mop2_at, mtup_at, mlst_at, mfun_at, mand_at, mor_at, mnot_at, mandT_at, morT_at, mnotT_at, mtru_at, mbl_at, mite_at, mchain_at, mcall_at, mcallN_at, mmeth_at, msl_at, mpart0, mpart1, mdic0_at, iseq_at, irng_at, mcomp_at, fin_none, fin_v, fin_newF, fin_newT, resM_some, resM_none, isLst_ref, lstOf_ref, lstOf_lst, seqOf_tup, seqOf_lst, seqOf_ref, seqOf_scr, truth_bl, ofE_at, ofT_at, sPass_at, sExpr_at, sRet_at, sRetN_at, sAsg_at, sIf_at, sSeq_at, sFor_at, forLoop_nil, forLoop_cons, gname_at, gtup_at, go_nil, go_cons, gstar_at, gsub_at, runB_at, startE_at, wipeE_nil, wipeE_cons, isi_at, len_at, all_lst, tuple_at, list_at, isN_eq, isN_ne, isN_in, isN_notIn, cmp_int, add_int, sub_int, mod_int, fdiv_int, mul_int, mul_lst, add_lst, add_refL, app_at, join_at, isStr_str, add_tup, add_str, int_bl, int_int, sl_tup, sl_lst, sl_str, pow_int, neg_int, ix_tup, ix_lst, ix_ref, ix_scr, Res.bind_ok, Res.bind_bad, Res.bind_exc, List.getElem?_cons_zero, List.getElem?_cons_succ, List.getElem?_nil, List.map_cons, List.map_nil, List.cons_append, List.nil_append, List.append_nil, List.length_cons, List.length_nil, List.set_cons_zero, List.set_cons_succ, Option.map_some, Option.map_none, Option.isSome_some, List.replicate_succ, List.replicate_zero, if_true, if_false, reduceIte, Nat.reduceAdd, Nat.reduceSub, Nat.reduceLeDiff, Nat.reduceEqDiff, Nat.reduceLT, Bool.false_eq_true, and_self, and_true, true_and, List.drop_succ_cons, List.drop_zero, List.take_succ_cons, List.take_zero, Nat.zero_add, Nat.add_zero, Bool.not_true, Bool.not_false, Nat.sub_self, Nat.le_refl, Int.reduceLT, Int.reduceNeg, Nat.reducePow, Int.reducePow, Int.reduceToNat, Int.reduceAdd, Int.reduceSub, Int.reduceLE, Int.cast_ofNat_Int, Int.reduceBEq, List.flatten_cons, List.flatten_nil, Nat.reduceMul, Nat.one_mul, Nat.mul_one, Nat.mul_zero, Nat.zero_le, Int.reduceMul, d_LETTERS, d_MOST_LETTERS, F_made v hv]
theorem F_par (v : D) (hv : Fz v) (h : Hd) : F_is_parameter [v] h = .ok (.bl (madeB CAP 4 v)) h := by
  simp only [F_is_parameter, m_is_parameter, mc_at, mvar_at, mnil_at, mcons_at, mop1_at, mop2_at, mtup_at, mlst_at, mfun_at, mand_at, mor_at, mnot_at, mandT_at, morT_at, mnotT_at, mtru_at, mbl_at, mite_at, mchain_at, mcall_at, mcallN_at, mmeth_at, msl_at, mpart0, mpart1, mdic0_at, iseq_at, irng_at, mcomp_at, fin_none, fin_v, fin_newF, fin_newT, resM_some, resM_none, isLst_ref, lstOf_ref, lstOf_lst, seqOf_tup, seqOf_lst, seqOf_ref, seqOf_scr, truth_bl, ofE_at, ofT_at, sPass_at, sExpr_at, sRet_at, sRetN_at, sAsg_at, sIf_at, sSeq_at, sFor_at, forLoop_nil, forLoop_cons, gname_at, gtup_at, go_nil, go_cons, gstar_at, gsub_at, runB_at, startE_at, wipeE_nil, wipeE_cons, isi_at, len_at, all_lst, tuple_at, list_at, isN_eq, isN_ne, isN_in, isN_notIn, cmp_int, add_int, sub_int, mod_int, fdiv_int, mul_int, mul_lst, add_lst, add_refL, app_at, join_at, isStr_str, add_tup, add_str, int_bl, int_int, sl_tup, sl_lst, sl_str, pow_int, neg_int, ix_tup, ix_lst, ix_ref, ix_scr, Res.bind_ok, Res.bind_bad, Res.bind_exc, List.getElem?_cons_zero, List.getElem?_cons_succ, List.getElem?_nil, List.map_cons, List.map_nil, List.cons_append, List.nil_append, List.append_nil, List.length_cons, List.length_nil, List.set_cons_zero, List.set_cons_succ, Option.map_some, Option.map_none, Option.isSome_some, List.replicate_succ, List.replicate_zero, if_true, if_false, reduceIte, Nat.reduceAdd, Nat.reduceSub, Nat.reduceLeDiff, Nat.reduceEqDiff, Nat.reduceLT, Bool.false_eq_true, and_self, and_true, true_and, List.drop_succ_cons, List.drop_zero, List.take_succ_cons, List.take_zero, Nat.zero_add, Nat.add_zero, Bool.not_true, Bool.not_false, Nat.sub_self, Nat.le_refl, Int.reduceLT, Int.reduceNeg, Nat.reducePow, Int.reducePow, Int.reduceToNat, Int.reduceAdd, Int.reduceSub, Int.reduceLE, Int.cast_ofNat_Int, Int.reduceBEq, List.flatten_cons, List.flatten_nil, Nat.reduceMul, Nat.one_mul, Nat.mul_one, Nat.mul_zero, Nat.zero_le, Int.reduceMul, d_CAPITALS, d_MOST_CAPITALS, F_made v hv]
theorem F_spelled (v : D) (hv : Fz v) (S : Str) (m : Int) (h : Hd) : F__law_is_spelled [v, .str S, .int m] h = .ok (.bl (madeB S m v)) h := by
  obtain ⟨t, ht⟩ := hv.ty
  cases v with
  | str z =>
    simp only [F__law_is_spelled, m__law_is_spelled, mc_at, mvar_at, mnil_at, mcons_at, mop1_at, mop2_at, mtup_at, mlst_at, mfun_at, mand_at, mor_at, mnot_at, mandT_at, morT_at, mnotT_at, mtru_at, mbl_at, mite_at, mchain_at, mcall_at, mcallN_at, mmeth_at, msl_at, mpart0, mpart1, mdic0_at, iseq_at, irng_at, mcomp_at, fin_none, fin_v, fin_newF, fin_newT, resM_some, resM_none, isLst_ref, lstOf_ref, lstOf_lst, seqOf_tup, seqOf_lst, seqOf_ref, seqOf_scr, truth_bl, ofE_at, ofT_at, sPass_at, sExpr_at, sRet_at, sRetN_at, sAsg_at, sIf_at, sSeq_at, sFor_at, forLoop_nil, forLoop_cons, gname_at, gtup_at, go_nil, go_cons, gstar_at, gsub_at, runB_at, startE_at, wipeE_nil, wipeE_cons, isi_at, len_at, all_lst, tuple_at, list_at, isN_eq, isN_ne, isN_in, isN_notIn, cmp_int, add_int, sub_int, mod_int, fdiv_int, mul_int, mul_lst, add_lst, add_refL, app_at, join_at, isStr_str, add_tup, add_str, int_bl, int_int, sl_tup, sl_lst, sl_str, pow_int, neg_int, ix_tup, ix_lst, ix_ref, ix_scr, Res.bind_ok, Res.bind_bad, Res.bind_exc, List.getElem?_cons_zero, List.getElem?_cons_succ, List.getElem?_nil, List.map_cons, List.map_nil, List.cons_append, List.nil_append, List.append_nil, List.length_cons, List.length_nil, List.set_cons_zero, List.set_cons_succ, Option.map_some, Option.map_none, Option.isSome_some, List.replicate_succ, List.replicate_zero, if_true, if_false, reduceIte, Nat.reduceAdd, Nat.reduceSub, Nat.reduceLeDiff, Nat.reduceEqDiff, Nat.reduceLT, Bool.false_eq_true, and_self, and_true, true_and, List.drop_succ_cons, List.drop_zero, List.take_succ_cons, List.take_zero, Nat.zero_add, Nat.add_zero, Bool.not_true, Bool.not_false, Nat.sub_self, Nat.le_refl, Int.reduceLT, Int.reduceNeg, Nat.reducePow, Int.reducePow, Int.reduceToNat, Int.reduceAdd, Int.reduceSub, Int.reduceLE, Int.cast_ofNat_Int, Int.reduceBEq, List.flatten_cons, List.flatten_nil, Nat.reduceMul, Nat.one_mul, Nat.mul_one, Nat.mul_zero, Nat.zero_le, Int.reduceMul, tyOf, isSub, lenOf, itemsOf, madeB, truth, eqv]
    by_cases h1 : 1 ≤ (z.length : Int)
    · have e1 : ((z.length : Int) == 0) = false := by rw [beq_eq_false_iff_ne]; omega
      simp only [h1, e1, decide_true, mc_at, mvar_at, mnil_at, mcons_at, mop1_at, mop2_at, mtup_at, mlst_at, mfun_at, mand_at, mor_at, mnot_at, mandT_at, morT_at, mnotT_at, mtru_at, mbl_at, mite_at, mchain_at, mcall_at, mcallN_at, mmeth_at, msl_at, mpart0, mpart1, mdic0_at, iseq_at, irng_at, mcomp_at, fin_none, fin_v, fin_newF, fin_newT, resM_some, resM_none, isLst_ref, lstOf_ref, lstOf_lst, seqOf_tup, seqOf_lst, seqOf_ref, seqOf_scr, truth_bl, ofE_at, ofT_at, sPass_at, sExpr_at, sRet_at, sRetN_at, sAsg_at, sIf_at, sSeq_at, sFor_at, forLoop_nil, forLoop_cons, gname_at, gtup_at, go_nil, go_cons, gstar_at, gsub_at, runB_at, startE_at, wipeE_nil, wipeE_cons, isi_at, len_at, all_lst, tuple_at, list_at, isN_eq, isN_ne, isN_in, isN_notIn, cmp_int, add_int, sub_int, mod_int, fdiv_int, mul_int, mul_lst, add_lst, add_refL, app_at, join_at, isStr_str, add_tup, add_str, int_bl, int_int, sl_tup, sl_lst, sl_str, pow_int, neg_int, ix_tup, ix_lst, ix_ref, ix_scr, Res.bind_ok, Res.bind_bad, Res.bind_exc, List.getElem?_cons_zero, List.getElem?_cons_succ, List.getElem?_nil, List.map_cons, List.map_nil, List.cons_append, List.nil_append, List.append_nil, List.length_cons, List.length_nil, List.set_cons_zero, List.set_cons_succ, Option.map_some, Option.map_none, Option.isSome_some, List.replicate_succ, List.replicate_zero, if_true, if_false, reduceIte, Nat.reduceAdd, Nat.reduceSub, Nat.reduceLeDiff, Nat.reduceEqDiff, Nat.reduceLT, Bool.false_eq_true, and_self, and_true, true_and, List.drop_succ_cons, List.drop_zero, List.take_succ_cons, List.take_zero, Nat.zero_add, Nat.add_zero, Bool.not_true, Bool.not_false, Nat.sub_self, Nat.le_refl, Int.reduceLT, Int.reduceNeg, Nat.reducePow, Int.reducePow, Int.reduceToNat, Int.reduceAdd, Int.reduceSub, Int.reduceLE, Int.cast_ofNat_Int, Int.reduceBEq, List.flatten_cons, List.flatten_nil, Nat.reduceMul, Nat.one_mul, Nat.mul_one, Nat.mul_zero, Nat.zero_le, Int.reduceMul]
      by_cases h2 : (z.length : Int) ≤ m
      · have e2 : ¬ (m < (z.length : Int)) := by omega
        simp only [h2, e2, decide_true, decide_false, mc_at, mvar_at, mnil_at, mcons_at, mop1_at, mop2_at, mtup_at, mlst_at, mfun_at, mand_at, mor_at, mnot_at, mandT_at, morT_at, mnotT_at, mtru_at, mbl_at, mite_at, mchain_at, mcall_at, mcallN_at, mmeth_at, msl_at, mpart0, mpart1, mdic0_at, iseq_at, irng_at, mcomp_at, fin_none, fin_v, fin_newF, fin_newT, resM_some, resM_none, isLst_ref, lstOf_ref, lstOf_lst, seqOf_tup, seqOf_lst, seqOf_ref, seqOf_scr, truth_bl, ofE_at, ofT_at, sPass_at, sExpr_at, sRet_at, sRetN_at, sAsg_at, sIf_at, sSeq_at, sFor_at, forLoop_nil, forLoop_cons, gname_at, gtup_at, go_nil, go_cons, gstar_at, gsub_at, runB_at, startE_at, wipeE_nil, wipeE_cons, isi_at, len_at, all_lst, tuple_at, list_at, isN_eq, isN_ne, isN_in, isN_notIn, cmp_int, add_int, sub_int, mod_int, fdiv_int, mul_int, mul_lst, add_lst, add_refL, app_at, join_at, isStr_str, add_tup, add_str, int_bl, int_int, sl_tup, sl_lst, sl_str, pow_int, neg_int, ix_tup, ix_lst, ix_ref, ix_scr, Res.bind_ok, Res.bind_bad, Res.bind_exc, List.getElem?_cons_zero, List.getElem?_cons_succ, List.getElem?_nil, List.map_cons, List.map_nil, List.cons_append, List.nil_append, List.append_nil, List.length_cons, List.length_nil, List.set_cons_zero, List.set_cons_succ, Option.map_some, Option.map_none, Option.isSome_some, List.replicate_succ, List.replicate_zero, if_true, if_false, reduceIte, Nat.reduceAdd, Nat.reduceSub, Nat.reduceLeDiff, Nat.reduceEqDiff, Nat.reduceLT, Bool.false_eq_true, and_self, and_true, true_and, List.drop_succ_cons, List.drop_zero, List.take_succ_cons, List.take_zero, Nat.zero_add, Nat.add_zero, Bool.not_true, Bool.not_false, Nat.sub_self, Nat.le_refl, Int.reduceLT, Int.reduceNeg, Nat.reducePow, Int.reducePow, Int.reduceToNat, Int.reduceAdd, Int.reduceSub, Int.reduceLE, Int.cast_ofNat_Int, Int.reduceBEq, List.flatten_cons, List.flatten_nil, Nat.reduceMul, Nat.one_mul, Nat.mul_one, Nat.mul_zero, Nat.zero_le, Int.reduceMul]
        rw [comp_mapm (f := fun c => .bl (inS c S)) fun c _ => by simp only [mc_at, mvar_at, mnil_at, mcons_at, mop1_at, mop2_at, mtup_at, mlst_at, mfun_at, mand_at, mor_at, mnot_at, mandT_at, morT_at, mnotT_at, mtru_at, mbl_at, mite_at, mchain_at, mcall_at, mcallN_at, mmeth_at, msl_at, mpart0, mpart1, mdic0_at, iseq_at, irng_at, mcomp_at, fin_none, fin_v, fin_newF, fin_newT, resM_some, resM_none, isLst_ref, lstOf_ref, lstOf_lst, seqOf_tup, seqOf_lst, seqOf_ref, seqOf_scr, truth_bl, ofE_at, ofT_at, sPass_at, sExpr_at, sRet_at, sRetN_at, sAsg_at, sIf_at, sSeq_at, sFor_at, forLoop_nil, forLoop_cons, gname_at, gtup_at, go_nil, go_cons, gstar_at, gsub_at, runB_at, startE_at, wipeE_nil, wipeE_cons, isi_at, len_at, all_lst, tuple_at, list_at, isN_eq, isN_ne, isN_in, isN_notIn, cmp_int, add_int, sub_int, mod_int, fdiv_int, mul_int, mul_lst, add_lst, add_refL, app_at, join_at, isStr_str, add_tup, add_str, int_bl, int_int, sl_tup, sl_lst, sl_str, pow_int, neg_int, ix_tup, ix_lst, ix_ref, ix_scr, Res.bind_ok, Res.bind_bad, Res.bind_exc, List.getElem?_cons_zero, List.getElem?_cons_succ, List.getElem?_nil, List.map_cons, List.map_nil, List.cons_append, List.nil_append, List.append_nil, List.length_cons, List.length_nil, List.set_cons_zero, List.set_cons_succ, Option.map_some, Option.map_none, Option.isSome_some, List.replicate_succ, List.replicate_zero, if_true, if_false, reduceIte, Nat.reduceAdd, Nat.reduceSub, Nat.reduceLeDiff, Nat.reduceEqDiff, Nat.reduceLT, Bool.false_eq_true, and_self, and_true, true_and, List.drop_succ_cons, List.drop_zero, List.take_succ_cons, List.take_zero, Nat.zero_add, Nat.add_zero, Bool.not_true, Bool.not_false, Nat.sub_self, Nat.le_refl, Int.reduceLT, Int.reduceNeg, Nat.reducePow, Int.reducePow, Int.reduceToNat, Int.reduceAdd, Int.reduceSub, Int.reduceLE, Int.cast_ofNat_Int, Int.reduceBEq, List.flatten_cons, List.flatten_nil, Nat.reduceMul, Nat.one_mul, Nat.mul_one, Nat.mul_zero, Nat.zero_le, Int.reduceMul, isIn]; rfl]
        simp only [mc_at, mvar_at, mnil_at, mcons_at, mop1_at, mop2_at, mtup_at, mlst_at, mfun_at, mand_at, mor_at, mnot_at, mandT_at, morT_at, mnotT_at, mtru_at, mbl_at, mite_at, mchain_at, mcall_at, mcallN_at, mmeth_at, msl_at, mpart0, mpart1, mdic0_at, iseq_at, irng_at, mcomp_at, fin_none, fin_v, fin_newF, fin_newT, resM_some, resM_none, isLst_ref, lstOf_ref, lstOf_lst, seqOf_tup, seqOf_lst, seqOf_ref, seqOf_scr, truth_bl, ofE_at, ofT_at, sPass_at, sExpr_at, sRet_at, sRetN_at, sAsg_at, sIf_at, sSeq_at, sFor_at, forLoop_nil, forLoop_cons, gname_at, gtup_at, go_nil, go_cons, gstar_at, gsub_at, runB_at, startE_at, wipeE_nil, wipeE_cons, isi_at, len_at, all_lst, tuple_at, list_at, isN_eq, isN_ne, isN_in, isN_notIn, cmp_int, add_int, sub_int, mod_int, fdiv_int, mul_int, mul_lst, add_lst, add_refL, app_at, join_at, isStr_str, add_tup, add_str, int_bl, int_int, sl_tup, sl_lst, sl_str, pow_int, neg_int, ix_tup, ix_lst, ix_ref, ix_scr, Res.bind_ok, Res.bind_bad, Res.bind_exc, List.getElem?_cons_zero, List.getElem?_cons_succ, List.getElem?_nil, List.map_cons, List.map_nil, List.cons_append, List.nil_append, List.append_nil, List.length_cons, List.length_nil, List.set_cons_zero, List.set_cons_succ, Option.map_some, Option.map_none, Option.isSome_some, List.replicate_succ, List.replicate_zero, if_true, if_false, reduceIte, Nat.reduceAdd, Nat.reduceSub, Nat.reduceLeDiff, Nat.reduceEqDiff, Nat.reduceLT, Bool.false_eq_true, and_self, and_true, true_and, List.drop_succ_cons, List.drop_zero, List.take_succ_cons, List.take_zero, Nat.zero_add, Nat.add_zero, Bool.not_true, Bool.not_false, Nat.sub_self, Nat.le_refl, Int.reduceLT, Int.reduceNeg, Nat.reducePow, Int.reducePow, Int.reduceToNat, Int.reduceAdd, Int.reduceSub, Int.reduceLE, Int.cast_ofNat_Int, Int.reduceBEq, List.flatten_cons, List.flatten_nil, Nat.reduceMul, Nat.one_mul, Nat.mul_one, Nat.mul_zero, Nat.zero_le, Int.reduceMul, bls_map, Bool.true_and]
      · have e2 : m < (z.length : Int) := by omega
        simp only [h2, e2, decide_false, decide_true, mc_at, mvar_at, mnil_at, mcons_at, mop1_at, mop2_at, mtup_at, mlst_at, mfun_at, mand_at, mor_at, mnot_at, mandT_at, morT_at, mnotT_at, mtru_at, mbl_at, mite_at, mchain_at, mcall_at, mcallN_at, mmeth_at, msl_at, mpart0, mpart1, mdic0_at, iseq_at, irng_at, mcomp_at, fin_none, fin_v, fin_newF, fin_newT, resM_some, resM_none, isLst_ref, lstOf_ref, lstOf_lst, seqOf_tup, seqOf_lst, seqOf_ref, seqOf_scr, truth_bl, ofE_at, ofT_at, sPass_at, sExpr_at, sRet_at, sRetN_at, sAsg_at, sIf_at, sSeq_at, sFor_at, forLoop_nil, forLoop_cons, gname_at, gtup_at, go_nil, go_cons, gstar_at, gsub_at, runB_at, startE_at, wipeE_nil, wipeE_cons, isi_at, len_at, all_lst, tuple_at, list_at, isN_eq, isN_ne, isN_in, isN_notIn, cmp_int, add_int, sub_int, mod_int, fdiv_int, mul_int, mul_lst, add_lst, add_refL, app_at, join_at, isStr_str, add_tup, add_str, int_bl, int_int, sl_tup, sl_lst, sl_str, pow_int, neg_int, ix_tup, ix_lst, ix_ref, ix_scr, Res.bind_ok, Res.bind_bad, Res.bind_exc, List.getElem?_cons_zero, List.getElem?_cons_succ, List.getElem?_nil, List.map_cons, List.map_nil, List.cons_append, List.nil_append, List.append_nil, List.length_cons, List.length_nil, List.set_cons_zero, List.set_cons_succ, Option.map_some, Option.map_none, Option.isSome_some, List.replicate_succ, List.replicate_zero, if_true, if_false, reduceIte, Nat.reduceAdd, Nat.reduceSub, Nat.reduceLeDiff, Nat.reduceEqDiff, Nat.reduceLT, Bool.false_eq_true, and_self, and_true, true_and, List.drop_succ_cons, List.drop_zero, List.take_succ_cons, List.take_zero, Nat.zero_add, Nat.add_zero, Bool.not_true, Bool.not_false, Nat.sub_self, Nat.le_refl, Int.reduceLT, Int.reduceNeg, Nat.reducePow, Int.reducePow, Int.reduceToNat, Int.reduceAdd, Int.reduceSub, Int.reduceLE, Int.cast_ofNat_Int, Int.reduceBEq, List.flatten_cons, List.flatten_nil, Nat.reduceMul, Nat.one_mul, Nat.mul_one, Nat.mul_zero, Nat.zero_le, Int.reduceMul, Bool.true_and, Bool.false_and]
    · have e1 : ((z.length : Int) == 0) = true := by rw [beq_iff_eq]; omega
      simp only [h1, e1, decide_false, mc_at, mvar_at, mnil_at, mcons_at, mop1_at, mop2_at, mtup_at, mlst_at, mfun_at, mand_at, mor_at, mnot_at, mandT_at, morT_at, mnotT_at, mtru_at, mbl_at, mite_at, mchain_at, mcall_at, mcallN_at, mmeth_at, msl_at, mpart0, mpart1, mdic0_at, iseq_at, irng_at, mcomp_at, fin_none, fin_v, fin_newF, fin_newT, resM_some, resM_none, isLst_ref, lstOf_ref, lstOf_lst, seqOf_tup, seqOf_lst, seqOf_ref, seqOf_scr, truth_bl, ofE_at, ofT_at, sPass_at, sExpr_at, sRet_at, sRetN_at, sAsg_at, sIf_at, sSeq_at, sFor_at, forLoop_nil, forLoop_cons, gname_at, gtup_at, go_nil, go_cons, gstar_at, gsub_at, runB_at, startE_at, wipeE_nil, wipeE_cons, isi_at, len_at, all_lst, tuple_at, list_at, isN_eq, isN_ne, isN_in, isN_notIn, cmp_int, add_int, sub_int, mod_int, fdiv_int, mul_int, mul_lst, add_lst, add_refL, app_at, join_at, isStr_str, add_tup, add_str, int_bl, int_int, sl_tup, sl_lst, sl_str, pow_int, neg_int, ix_tup, ix_lst, ix_ref, ix_scr, Res.bind_ok, Res.bind_bad, Res.bind_exc, List.getElem?_cons_zero, List.getElem?_cons_succ, List.getElem?_nil, List.map_cons, List.map_nil, List.cons_append, List.nil_append, List.append_nil, List.length_cons, List.length_nil, List.set_cons_zero, List.set_cons_succ, Option.map_some, Option.map_none, Option.isSome_some, List.replicate_succ, List.replicate_zero, if_true, if_false, reduceIte, Nat.reduceAdd, Nat.reduceSub, Nat.reduceLeDiff, Nat.reduceEqDiff, Nat.reduceLT, Bool.false_eq_true, and_self, and_true, true_and, List.drop_succ_cons, List.drop_zero, List.take_succ_cons, List.take_zero, Nat.zero_add, Nat.add_zero, Bool.not_true, Bool.not_false, Nat.sub_self, Nat.le_refl, Int.reduceLT, Int.reduceNeg, Nat.reducePow, Int.reducePow, Int.reduceToNat, Int.reduceAdd, Int.reduceSub, Int.reduceLE, Int.cast_ofNat_Int, Int.reduceBEq, List.flatten_cons, List.flatten_nil, Nat.reduceMul, Nat.one_mul, Nat.mul_one, Nat.mul_zero, Nat.zero_le, Int.reduceMul, Bool.false_and]
  | _ =>
    simp only [F__law_is_spelled, m__law_is_spelled, mc_at, mvar_at, mnil_at, mcons_at, mop1_at, mop2_at, mtup_at, mlst_at, mfun_at, mand_at, mor_at, mnot_at, mandT_at, morT_at, mnotT_at, mtru_at, mbl_at, mite_at, mchain_at, mcall_at, mcallN_at, mmeth_at, msl_at, mpart0, mpart1, mdic0_at, iseq_at, irng_at, mcomp_at, fin_none, fin_v, fin_newF, fin_newT, resM_some, resM_none, isLst_ref, lstOf_ref, lstOf_lst, seqOf_tup, seqOf_lst, seqOf_ref, seqOf_scr, truth_bl, ofE_at, ofT_at, sPass_at, sExpr_at, sRet_at, sRetN_at, sAsg_at, sIf_at, sSeq_at, sFor_at, forLoop_nil, forLoop_cons, gname_at, gtup_at, go_nil, go_cons, gstar_at, gsub_at, runB_at, startE_at, wipeE_nil, wipeE_cons, isi_at, len_at, all_lst, tuple_at, list_at, isN_eq, isN_ne, isN_in, isN_notIn, cmp_int, add_int, sub_int, mod_int, fdiv_int, mul_int, mul_lst, add_lst, add_refL, app_at, join_at, isStr_str, add_tup, add_str, int_bl, int_int, sl_tup, sl_lst, sl_str, pow_int, neg_int, ix_tup, ix_lst, ix_ref, ix_scr, Res.bind_ok, Res.bind_bad, Res.bind_exc, List.getElem?_cons_zero, List.getElem?_cons_succ, List.getElem?_nil, List.map_cons, List.map_nil, List.cons_append, List.nil_append, List.append_nil, List.length_cons, List.length_nil, List.set_cons_zero, List.set_cons_succ, Option.map_some, Option.map_none, Option.isSome_some, List.replicate_succ, List.replicate_zero, if_true, if_false, reduceIte, Nat.reduceAdd, Nat.reduceSub, Nat.reduceLeDiff, Nat.reduceEqDiff, Nat.reduceLT, Bool.false_eq_true, and_self, and_true, true_and, List.drop_succ_cons, List.drop_zero, List.take_succ_cons, List.take_zero, Nat.zero_add, Nat.add_zero, Bool.not_true, Bool.not_false, Nat.sub_self, Nat.le_refl, Int.reduceLT, Int.reduceNeg, Nat.reducePow, Int.reducePow, Int.reduceToNat, Int.reduceAdd, Int.reduceSub, Int.reduceLE, Int.cast_ofNat_Int, Int.reduceBEq, List.flatten_cons, List.flatten_nil, Nat.reduceMul, Nat.one_mul, Nat.mul_one, Nat.mul_zero, Nat.zero_le, Int.reduceMul, ht, madeB, truth]
    simp only [tyOf] at ht
    first | (have := ht []; cases this; rfl) | (obtain ⟨p, e⟩ := hv; simp only [toPy] at e; cases e)
theorem F_small (v : D) (hv : Fz v) (h : Hd) : F__law_is_small [v] h = .ok (.bl (madeB LET 8 v)) h := by
  simp only [F__law_is_small, m__law_is_small, mc_at, mvar_at, mnil_at, mcons_at, mop1_at, mop2_at, mtup_at, mlst_at, mfun_at, mand_at, mor_at, mnot_at, mandT_at, morT_at, mnotT_at, mtru_at, mbl_at, mite_at, mchain_at, mcall_at, mcallN_at, mmeth_at, msl_at, mpart0, mpart1, mdic0_at, iseq_at, irng_at, mcomp_at, fin_none, fin_v, fin_newF, fin_newT, resM_some, resM_none, isLst_ref, lstOf_ref, lstOf_lst, seqOf_tup, seqOf_lst, seqOf_ref, seqOf_scr, truth_bl, ofE_at, ofT_at, sPass_at, sExpr_at, sRet_at, sRetN_at, sAsg_at, sIf_at, sSeq_at, sFor_at, forLoop_nil, forLoop_cons, gname_at, gtup_at, go_nil, go_cons, gstar_at, gsub_at, runB_at, startE_at, wipeE_nil, wipeE_cons, isi_at, len_at, all_lst, tuple_at, list_at, isN_eq, isN_ne, isN_in, isN_notIn, cmp_int, add_int, sub_int, mod_int, fdiv_int, mul_int, mul_lst, add_lst, add_refL, app_at, join_at, isStr_str, add_tup, add_str, int_bl, int_int, sl_tup, sl_lst, sl_str, pow_int, neg_int, ix_tup, ix_lst, ix_ref, ix_scr, Res.bind_ok, Res.bind_bad, Res.bind_exc, List.getElem?_cons_zero, List.getElem?_cons_succ, List.getElem?_nil, List.map_cons, List.map_nil, List.cons_append, List.nil_append, List.append_nil, List.length_cons, List.length_nil, List.set_cons_zero, List.set_cons_succ, Option.map_some, Option.map_none, Option.isSome_some, List.replicate_succ, List.replicate_zero, if_true, if_false, reduceIte, Nat.reduceAdd, Nat.reduceSub, Nat.reduceLeDiff, Nat.reduceEqDiff, Nat.reduceLT, Bool.false_eq_true, and_self, and_true, true_and, List.drop_succ_cons, List.drop_zero, List.take_succ_cons, List.take_zero, Nat.zero_add, Nat.add_zero, Bool.not_true, Bool.not_false, Nat.sub_self, Nat.le_refl, Int.reduceLT, Int.reduceNeg, Nat.reducePow, Int.reducePow, Int.reduceToNat, Int.reduceAdd, Int.reduceSub, Int.reduceLE, Int.cast_ofNat_Int, Int.reduceBEq, List.flatten_cons, List.flatten_nil, Nat.reduceMul, Nat.one_mul, Nat.mul_one, Nat.mul_zero, Nat.zero_le, Int.reduceMul, F_spelled v hv]
theorem F_great (v : D) (hv : Fz v) (h : Hd) : F__law_is_great [v] h = .ok (.bl (madeB CAP 4 v)) h := by
  simp only [F__law_is_great, m__law_is_great, mc_at, mvar_at, mnil_at, mcons_at, mop1_at, mop2_at, mtup_at, mlst_at, mfun_at, mand_at, mor_at, mnot_at, mandT_at, morT_at, mnotT_at, mtru_at, mbl_at, mite_at, mchain_at, mcall_at, mcallN_at, mmeth_at, msl_at, mpart0, mpart1, mdic0_at, iseq_at, irng_at, mcomp_at, fin_none, fin_v, fin_newF, fin_newT, resM_some, resM_none, isLst_ref, lstOf_ref, lstOf_lst, seqOf_tup, seqOf_lst, seqOf_ref, seqOf_scr, truth_bl, ofE_at, ofT_at, sPass_at, sExpr_at, sRet_at, sRetN_at, sAsg_at, sIf_at, sSeq_at, sFor_at, forLoop_nil, forLoop_cons, gname_at, gtup_at, go_nil, go_cons, gstar_at, gsub_at, runB_at, startE_at, wipeE_nil, wipeE_cons, isi_at, len_at, all_lst, tuple_at, list_at, isN_eq, isN_ne, isN_in, isN_notIn, cmp_int, add_int, sub_int, mod_int, fdiv_int, mul_int, mul_lst, add_lst, add_refL, app_at, join_at, isStr_str, add_tup, add_str, int_bl, int_int, sl_tup, sl_lst, sl_str, pow_int, neg_int, ix_tup, ix_lst, ix_ref, ix_scr, Res.bind_ok, Res.bind_bad, Res.bind_exc, List.getElem?_cons_zero, List.getElem?_cons_succ, List.getElem?_nil, List.map_cons, List.map_nil, List.cons_append, List.nil_append, List.append_nil, List.length_cons, List.length_nil, List.set_cons_zero, List.set_cons_succ, Option.map_some, Option.map_none, Option.isSome_some, List.replicate_succ, List.replicate_zero, if_true, if_false, reduceIte, Nat.reduceAdd, Nat.reduceSub, Nat.reduceLeDiff, Nat.reduceEqDiff, Nat.reduceLT, Bool.false_eq_true, and_self, and_true, true_and, List.drop_succ_cons, List.drop_zero, List.take_succ_cons, List.take_zero, Nat.zero_add, Nat.add_zero, Bool.not_true, Bool.not_false, Nat.sub_self, Nat.le_refl, Int.reduceLT, Int.reduceNeg, Nat.reducePow, Int.reducePow, Int.reduceToNat, Int.reduceAdd, Int.reduceSub, Int.reduceLE, Int.cast_ofNat_Int, Int.reduceBEq, List.flatten_cons, List.flatten_nil, Nat.reduceMul, Nat.one_mul, Nat.mul_one, Nat.mul_zero, Nat.zero_le, Int.reduceMul, F_spelled v hv]
def intB : D → Bool
  | .int _ => true
  | _ => false
def cntB : D → Bool
  | .int i => decide (0 ≤ i)
  | _ => false
theorem F_int (v : D) (hv : Fz v) (h : Hd) : F_is_integer [v] h = .ok (.bl (intB v)) h := by
  obtain ⟨p, e⟩ := hv
  cases v <;> first | (simp only [toPy] at e; cases e; done) | (simp only [F_is_integer, m_is_integer, mc_at, mvar_at, mnil_at, mcons_at, mop1_at, mop2_at, mtup_at, mlst_at, mfun_at, mand_at, mor_at, mnot_at, mandT_at, morT_at, mnotT_at, mtru_at, mbl_at, mite_at, mchain_at, mcall_at, mcallN_at, mmeth_at, msl_at, mpart0, mpart1, mdic0_at, iseq_at, irng_at, mcomp_at, fin_none, fin_v, fin_newF, fin_newT, resM_some, resM_none, isLst_ref, lstOf_ref, lstOf_lst, seqOf_tup, seqOf_lst, seqOf_ref, seqOf_scr, truth_bl, ofE_at, ofT_at, sPass_at, sExpr_at, sRet_at, sRetN_at, sAsg_at, sIf_at, sSeq_at, sFor_at, forLoop_nil, forLoop_cons, gname_at, gtup_at, go_nil, go_cons, gstar_at, gsub_at, runB_at, startE_at, wipeE_nil, wipeE_cons, isi_at, len_at, all_lst, tuple_at, list_at, isN_eq, isN_ne, isN_in, isN_notIn, cmp_int, add_int, sub_int, mod_int, fdiv_int, mul_int, mul_lst, add_lst, add_refL, app_at, join_at, isStr_str, add_tup, add_str, int_bl, int_int, sl_tup, sl_lst, sl_str, pow_int, neg_int, ix_tup, ix_lst, ix_ref, ix_scr, Res.bind_ok, Res.bind_bad, Res.bind_exc, List.getElem?_cons_zero, List.getElem?_cons_succ, List.getElem?_nil, List.map_cons, List.map_nil, List.cons_append, List.nil_append, List.append_nil, List.length_cons, List.length_nil, List.set_cons_zero, List.set_cons_succ, Option.map_some, Option.map_none, Option.isSome_some, List.replicate_succ, List.replicate_zero, if_true, if_false, reduceIte, Nat.reduceAdd, Nat.reduceSub, Nat.reduceLeDiff, Nat.reduceEqDiff, Nat.reduceLT, Bool.false_eq_true, and_self, and_true, true_and, List.drop_succ_cons, List.drop_zero, List.take_succ_cons, List.take_zero, Nat.zero_add, Nat.add_zero, Bool.not_true, Bool.not_false, Nat.sub_self, Nat.le_refl, Int.reduceLT, Int.reduceNeg, Nat.reducePow, Int.reducePow, Int.reduceToNat, Int.reduceAdd, Int.reduceSub, Int.reduceLE, Int.cast_ofNat_Int, Int.reduceBEq, List.flatten_cons, List.flatten_nil, Nat.reduceMul, Nat.one_mul, Nat.mul_one, Nat.mul_zero, Nat.zero_le, Int.reduceMul, tyOf, isSub, truth, intB])
theorem F_whole (v : D) (hv : Fz v) (h : Hd) : F__law_is_whole [v] h = .ok (.bl (intB v)) h := by
  obtain ⟨p, e⟩ := hv
  cases v <;> first | (simp only [toPy] at e; cases e; done) | (simp only [F__law_is_whole, m__law_is_whole, mc_at, mvar_at, mnil_at, mcons_at, mop1_at, mop2_at, mtup_at, mlst_at, mfun_at, mand_at, mor_at, mnot_at, mandT_at, morT_at, mnotT_at, mtru_at, mbl_at, mite_at, mchain_at, mcall_at, mcallN_at, mmeth_at, msl_at, mpart0, mpart1, mdic0_at, iseq_at, irng_at, mcomp_at, fin_none, fin_v, fin_newF, fin_newT, resM_some, resM_none, isLst_ref, lstOf_ref, lstOf_lst, seqOf_tup, seqOf_lst, seqOf_ref, seqOf_scr, truth_bl, ofE_at, ofT_at, sPass_at, sExpr_at, sRet_at, sRetN_at, sAsg_at, sIf_at, sSeq_at, sFor_at, forLoop_nil, forLoop_cons, gname_at, gtup_at, go_nil, go_cons, gstar_at, gsub_at, runB_at, startE_at, wipeE_nil, wipeE_cons, isi_at, len_at, all_lst, tuple_at, list_at, isN_eq, isN_ne, isN_in, isN_notIn, cmp_int, add_int, sub_int, mod_int, fdiv_int, mul_int, mul_lst, add_lst, add_refL, app_at, join_at, isStr_str, add_tup, add_str, int_bl, int_int, sl_tup, sl_lst, sl_str, pow_int, neg_int, ix_tup, ix_lst, ix_ref, ix_scr, Res.bind_ok, Res.bind_bad, Res.bind_exc, List.getElem?_cons_zero, List.getElem?_cons_succ, List.getElem?_nil, List.map_cons, List.map_nil, List.cons_append, List.nil_append, List.append_nil, List.length_cons, List.length_nil, List.set_cons_zero, List.set_cons_succ, Option.map_some, Option.map_none, Option.isSome_some, List.replicate_succ, List.replicate_zero, if_true, if_false, reduceIte, Nat.reduceAdd, Nat.reduceSub, Nat.reduceLeDiff, Nat.reduceEqDiff, Nat.reduceLT, Bool.false_eq_true, and_self, and_true, true_and, List.drop_succ_cons, List.drop_zero, List.take_succ_cons, List.take_zero, Nat.zero_add, Nat.add_zero, Bool.not_true, Bool.not_false, Nat.sub_self, Nat.le_refl, Int.reduceLT, Int.reduceNeg, Nat.reducePow, Int.reducePow, Int.reduceToNat, Int.reduceAdd, Int.reduceSub, Int.reduceLE, Int.cast_ofNat_Int, Int.reduceBEq, List.flatten_cons, List.flatten_nil, Nat.reduceMul, Nat.one_mul, Nat.mul_one, Nat.mul_zero, Nat.zero_le, Int.reduceMul, tyOf, isSub, truth, intB])
theorem F_cnt (v : D) (hv : Fz v) (h : Hd) : F_is_count [v] h = .ok (.bl (cntB v)) h := by
  simp only [F_is_count, m_is_count, mc_at, mvar_at, mnil_at, mcons_at, mop1_at, mop2_at, mtup_at, mlst_at, mfun_at, mand_at, mor_at, mnot_at, mandT_at, morT_at, mnotT_at, mtru_at, mbl_at, mite_at, mchain_at, mcall_at, mcallN_at, mmeth_at, msl_at, mpart0, mpart1, mdic0_at, iseq_at, irng_at, mcomp_at, fin_none, fin_v, fin_newF, fin_newT, resM_some, resM_none, isLst_ref, lstOf_ref, lstOf_lst, seqOf_tup, seqOf_lst, seqOf_ref, seqOf_scr, truth_bl, ofE_at, ofT_at, sPass_at, sExpr_at, sRet_at, sRetN_at, sAsg_at, sIf_at, sSeq_at, sFor_at, forLoop_nil, forLoop_cons, gname_at, gtup_at, go_nil, go_cons, gstar_at, gsub_at, runB_at, startE_at, wipeE_nil, wipeE_cons, isi_at, len_at, all_lst, tuple_at, list_at, isN_eq, isN_ne, isN_in, isN_notIn, cmp_int, add_int, sub_int, mod_int, fdiv_int, mul_int, mul_lst, add_lst, add_refL, app_at, join_at, isStr_str, add_tup, add_str, int_bl, int_int, sl_tup, sl_lst, sl_str, pow_int, neg_int, ix_tup, ix_lst, ix_ref, ix_scr, Res.bind_ok, Res.bind_bad, Res.bind_exc, List.getElem?_cons_zero, List.getElem?_cons_succ, List.getElem?_nil, List.map_cons, List.map_nil, List.cons_append, List.nil_append, List.append_nil, List.length_cons, List.length_nil, List.set_cons_zero, List.set_cons_succ, Option.map_some, Option.map_none, Option.isSome_some, List.replicate_succ, List.replicate_zero, if_true, if_false, reduceIte, Nat.reduceAdd, Nat.reduceSub, Nat.reduceLeDiff, Nat.reduceEqDiff, Nat.reduceLT, Bool.false_eq_true, and_self, and_true, true_and, List.drop_succ_cons, List.drop_zero, List.take_succ_cons, List.take_zero, Nat.zero_add, Nat.add_zero, Bool.not_true, Bool.not_false, Nat.sub_self, Nat.le_refl, Int.reduceLT, Int.reduceNeg, Nat.reducePow, Int.reducePow, Int.reduceToNat, Int.reduceAdd, Int.reduceSub, Int.reduceLE, Int.cast_ofNat_Int, Int.reduceBEq, List.flatten_cons, List.flatten_nil, Nat.reduceMul, Nat.one_mul, Nat.mul_one, Nat.mul_zero, Nat.zero_le, Int.reduceMul, F_int v hv]
  cases v <;> simp only [intB, cntB, mc_at, mvar_at, mnil_at, mcons_at, mop1_at, mop2_at, mtup_at, mlst_at, mfun_at, mand_at, mor_at, mnot_at, mandT_at, morT_at, mnotT_at, mtru_at, mbl_at, mite_at, mchain_at, mcall_at, mcallN_at, mmeth_at, msl_at, mpart0, mpart1, mdic0_at, iseq_at, irng_at, mcomp_at, fin_none, fin_v, fin_newF, fin_newT, resM_some, resM_none, isLst_ref, lstOf_ref, lstOf_lst, seqOf_tup, seqOf_lst, seqOf_ref, seqOf_scr, truth_bl, ofE_at, ofT_at, sPass_at, sExpr_at, sRet_at, sRetN_at, sAsg_at, sIf_at, sSeq_at, sFor_at, forLoop_nil, forLoop_cons, gname_at, gtup_at, go_nil, go_cons, gstar_at, gsub_at, runB_at, startE_at, wipeE_nil, wipeE_cons, isi_at, len_at, all_lst, tuple_at, list_at, isN_eq, isN_ne, isN_in, isN_notIn, cmp_int, add_int, sub_int, mod_int, fdiv_int, mul_int, mul_lst, add_lst, add_refL, app_at, join_at, isStr_str, add_tup, add_str, int_bl, int_int, sl_tup, sl_lst, sl_str, pow_int, neg_int, ix_tup, ix_lst, ix_ref, ix_scr, Res.bind_ok, Res.bind_bad, Res.bind_exc, List.getElem?_cons_zero, List.getElem?_cons_succ, List.getElem?_nil, List.map_cons, List.map_nil, List.cons_append, List.nil_append, List.append_nil, List.length_cons, List.length_nil, List.set_cons_zero, List.set_cons_succ, Option.map_some, Option.map_none, Option.isSome_some, List.replicate_succ, List.replicate_zero, if_true, if_false, reduceIte, Nat.reduceAdd, Nat.reduceSub, Nat.reduceLeDiff, Nat.reduceEqDiff, Nat.reduceLT, Bool.false_eq_true, and_self, and_true, true_and, List.drop_succ_cons, List.drop_zero, List.take_succ_cons, List.take_zero, Nat.zero_add, Nat.add_zero, Bool.not_true, Bool.not_false, Nat.sub_self, Nat.le_refl, Int.reduceLT, Int.reduceNeg, Nat.reducePow, Int.reducePow, Int.reduceToNat, Int.reduceAdd, Int.reduceSub, Int.reduceLE, Int.cast_ofNat_Int, Int.reduceBEq, List.flatten_cons, List.flatten_nil, Nat.reduceMul, Nat.one_mul, Nat.mul_one, Nat.mul_zero, Nat.zero_le, Int.reduceMul, truth]
def placeB : D → Bool
  | .tup xs => (xs.map cntB).all id
  | _ => false
theorem F_place (v : D) (hv : Fz v) (h : Hd) : F_is_place [v] h = .ok (.bl (placeB v)) h := by
  obtain ⟨t, ht⟩ := hv.ty
  cases v with
  | tup xs =>
    simp only [F_is_place, m_is_place, mc_at, mvar_at, mnil_at, mcons_at, mop1_at, mop2_at, mtup_at, mlst_at, mfun_at, mand_at, mor_at, mnot_at, mandT_at, morT_at, mnotT_at, mtru_at, mbl_at, mite_at, mchain_at, mcall_at, mcallN_at, mmeth_at, msl_at, mpart0, mpart1, mdic0_at, iseq_at, irng_at, mcomp_at, fin_none, fin_v, fin_newF, fin_newT, resM_some, resM_none, isLst_ref, lstOf_ref, lstOf_lst, seqOf_tup, seqOf_lst, seqOf_ref, seqOf_scr, truth_bl, ofE_at, ofT_at, sPass_at, sExpr_at, sRet_at, sRetN_at, sAsg_at, sIf_at, sSeq_at, sFor_at, forLoop_nil, forLoop_cons, gname_at, gtup_at, go_nil, go_cons, gstar_at, gsub_at, runB_at, startE_at, wipeE_nil, wipeE_cons, isi_at, len_at, all_lst, tuple_at, list_at, isN_eq, isN_ne, isN_in, isN_notIn, cmp_int, add_int, sub_int, mod_int, fdiv_int, mul_int, mul_lst, add_lst, add_refL, app_at, join_at, isStr_str, add_tup, add_str, int_bl, int_int, sl_tup, sl_lst, sl_str, pow_int, neg_int, ix_tup, ix_lst, ix_ref, ix_scr, Res.bind_ok, Res.bind_bad, Res.bind_exc, List.getElem?_cons_zero, List.getElem?_cons_succ, List.getElem?_nil, List.map_cons, List.map_nil, List.cons_append, List.nil_append, List.append_nil, List.length_cons, List.length_nil, List.set_cons_zero, List.set_cons_succ, Option.map_some, Option.map_none, Option.isSome_some, List.replicate_succ, List.replicate_zero, if_true, if_false, reduceIte, Nat.reduceAdd, Nat.reduceSub, Nat.reduceLeDiff, Nat.reduceEqDiff, Nat.reduceLT, Bool.false_eq_true, and_self, and_true, true_and, List.drop_succ_cons, List.drop_zero, List.take_succ_cons, List.take_zero, Nat.zero_add, Nat.add_zero, Bool.not_true, Bool.not_false, Nat.sub_self, Nat.le_refl, Int.reduceLT, Int.reduceNeg, Nat.reducePow, Int.reducePow, Int.reduceToNat, Int.reduceAdd, Int.reduceSub, Int.reduceLE, Int.cast_ofNat_Int, Int.reduceBEq, List.flatten_cons, List.flatten_nil, Nat.reduceMul, Nat.one_mul, Nat.mul_one, Nat.mul_zero, Nat.zero_le, Int.reduceMul, tyOf, isSub, itemsOf, placeB]
    rw [comp_map (f := fun x => .bl (cntB x)) fun x hx => by simp only [mc_at, mvar_at, mnil_at, mcons_at, mop1_at, mop2_at, mtup_at, mlst_at, mfun_at, mand_at, mor_at, mnot_at, mandT_at, morT_at, mnotT_at, mtru_at, mbl_at, mite_at, mchain_at, mcall_at, mcallN_at, mmeth_at, msl_at, mpart0, mpart1, mdic0_at, iseq_at, irng_at, mcomp_at, fin_none, fin_v, fin_newF, fin_newT, resM_some, resM_none, isLst_ref, lstOf_ref, lstOf_lst, seqOf_tup, seqOf_lst, seqOf_ref, seqOf_scr, truth_bl, ofE_at, ofT_at, sPass_at, sExpr_at, sRet_at, sRetN_at, sAsg_at, sIf_at, sSeq_at, sFor_at, forLoop_nil, forLoop_cons, gname_at, gtup_at, go_nil, go_cons, gstar_at, gsub_at, runB_at, startE_at, wipeE_nil, wipeE_cons, isi_at, len_at, all_lst, tuple_at, list_at, isN_eq, isN_ne, isN_in, isN_notIn, cmp_int, add_int, sub_int, mod_int, fdiv_int, mul_int, mul_lst, add_lst, add_refL, app_at, join_at, isStr_str, add_tup, add_str, int_bl, int_int, sl_tup, sl_lst, sl_str, pow_int, neg_int, ix_tup, ix_lst, ix_ref, ix_scr, Res.bind_ok, Res.bind_bad, Res.bind_exc, List.getElem?_cons_zero, List.getElem?_cons_succ, List.getElem?_nil, List.map_cons, List.map_nil, List.cons_append, List.nil_append, List.append_nil, List.length_cons, List.length_nil, List.set_cons_zero, List.set_cons_succ, Option.map_some, Option.map_none, Option.isSome_some, List.replicate_succ, List.replicate_zero, if_true, if_false, reduceIte, Nat.reduceAdd, Nat.reduceSub, Nat.reduceLeDiff, Nat.reduceEqDiff, Nat.reduceLT, Bool.false_eq_true, and_self, and_true, true_and, List.drop_succ_cons, List.drop_zero, List.take_succ_cons, List.take_zero, Nat.zero_add, Nat.add_zero, Bool.not_true, Bool.not_false, Nat.sub_self, Nat.le_refl, Int.reduceLT, Int.reduceNeg, Nat.reducePow, Int.reducePow, Int.reduceToNat, Int.reduceAdd, Int.reduceSub, Int.reduceLE, Int.cast_ofNat_Int, Int.reduceBEq, List.flatten_cons, List.flatten_nil, Nat.reduceMul, Nat.one_mul, Nat.mul_one, Nat.mul_zero, Nat.zero_le, Int.reduceMul, F_cnt x (hv.tup x hx)]]
    simp only [mc_at, mvar_at, mnil_at, mcons_at, mop1_at, mop2_at, mtup_at, mlst_at, mfun_at, mand_at, mor_at, mnot_at, mandT_at, morT_at, mnotT_at, mtru_at, mbl_at, mite_at, mchain_at, mcall_at, mcallN_at, mmeth_at, msl_at, mpart0, mpart1, mdic0_at, iseq_at, irng_at, mcomp_at, fin_none, fin_v, fin_newF, fin_newT, resM_some, resM_none, isLst_ref, lstOf_ref, lstOf_lst, seqOf_tup, seqOf_lst, seqOf_ref, seqOf_scr, truth_bl, ofE_at, ofT_at, sPass_at, sExpr_at, sRet_at, sRetN_at, sAsg_at, sIf_at, sSeq_at, sFor_at, forLoop_nil, forLoop_cons, gname_at, gtup_at, go_nil, go_cons, gstar_at, gsub_at, runB_at, startE_at, wipeE_nil, wipeE_cons, isi_at, len_at, all_lst, tuple_at, list_at, isN_eq, isN_ne, isN_in, isN_notIn, cmp_int, add_int, sub_int, mod_int, fdiv_int, mul_int, mul_lst, add_lst, add_refL, app_at, join_at, isStr_str, add_tup, add_str, int_bl, int_int, sl_tup, sl_lst, sl_str, pow_int, neg_int, ix_tup, ix_lst, ix_ref, ix_scr, Res.bind_ok, Res.bind_bad, Res.bind_exc, List.getElem?_cons_zero, List.getElem?_cons_succ, List.getElem?_nil, List.map_cons, List.map_nil, List.cons_append, List.nil_append, List.append_nil, List.length_cons, List.length_nil, List.set_cons_zero, List.set_cons_succ, Option.map_some, Option.map_none, Option.isSome_some, List.replicate_succ, List.replicate_zero, if_true, if_false, reduceIte, Nat.reduceAdd, Nat.reduceSub, Nat.reduceLeDiff, Nat.reduceEqDiff, Nat.reduceLT, Bool.false_eq_true, and_self, and_true, true_and, List.drop_succ_cons, List.drop_zero, List.take_succ_cons, List.take_zero, Nat.zero_add, Nat.add_zero, Bool.not_true, Bool.not_false, Nat.sub_self, Nat.le_refl, Int.reduceLT, Int.reduceNeg, Nat.reducePow, Int.reducePow, Int.reduceToNat, Int.reduceAdd, Int.reduceSub, Int.reduceLE, Int.cast_ofNat_Int, Int.reduceBEq, List.flatten_cons, List.flatten_nil, Nat.reduceMul, Nat.one_mul, Nat.mul_one, Nat.mul_zero, Nat.zero_le, Int.reduceMul, bls_map]
  | _ =>
    simp only [F_is_place, m_is_place, mc_at, mvar_at, mnil_at, mcons_at, mop1_at, mop2_at, mtup_at, mlst_at, mfun_at, mand_at, mor_at, mnot_at, mandT_at, morT_at, mnotT_at, mtru_at, mbl_at, mite_at, mchain_at, mcall_at, mcallN_at, mmeth_at, msl_at, mpart0, mpart1, mdic0_at, iseq_at, irng_at, mcomp_at, fin_none, fin_v, fin_newF, fin_newT, resM_some, resM_none, isLst_ref, lstOf_ref, lstOf_lst, seqOf_tup, seqOf_lst, seqOf_ref, seqOf_scr, truth_bl, ofE_at, ofT_at, sPass_at, sExpr_at, sRet_at, sRetN_at, sAsg_at, sIf_at, sSeq_at, sFor_at, forLoop_nil, forLoop_cons, gname_at, gtup_at, go_nil, go_cons, gstar_at, gsub_at, runB_at, startE_at, wipeE_nil, wipeE_cons, isi_at, len_at, all_lst, tuple_at, list_at, isN_eq, isN_ne, isN_in, isN_notIn, cmp_int, add_int, sub_int, mod_int, fdiv_int, mul_int, mul_lst, add_lst, add_refL, app_at, join_at, isStr_str, add_tup, add_str, int_bl, int_int, sl_tup, sl_lst, sl_str, pow_int, neg_int, ix_tup, ix_lst, ix_ref, ix_scr, Res.bind_ok, Res.bind_bad, Res.bind_exc, List.getElem?_cons_zero, List.getElem?_cons_succ, List.getElem?_nil, List.map_cons, List.map_nil, List.cons_append, List.nil_append, List.append_nil, List.length_cons, List.length_nil, List.set_cons_zero, List.set_cons_succ, Option.map_some, Option.map_none, Option.isSome_some, List.replicate_succ, List.replicate_zero, if_true, if_false, reduceIte, Nat.reduceAdd, Nat.reduceSub, Nat.reduceLeDiff, Nat.reduceEqDiff, Nat.reduceLT, Bool.false_eq_true, and_self, and_true, true_and, List.drop_succ_cons, List.drop_zero, List.take_succ_cons, List.take_zero, Nat.zero_add, Nat.add_zero, Bool.not_true, Bool.not_false, Nat.sub_self, Nat.le_refl, Int.reduceLT, Int.reduceNeg, Nat.reducePow, Int.reducePow, Int.reduceToNat, Int.reduceAdd, Int.reduceSub, Int.reduceLE, Int.cast_ofNat_Int, Int.reduceBEq, List.flatten_cons, List.flatten_nil, Nat.reduceMul, Nat.one_mul, Nat.mul_one, Nat.mul_zero, Nat.zero_le, Int.reduceMul, ht, placeB]
    simp only [tyOf] at ht
    first | (have := ht []; cases this; rfl) | (obtain ⟨p, e⟩ := hv; simp only [toPy] at e; cases e)
theorem F_spot (v : D) (hv : Fz v) (h : Hd) : F__law_is_spot [v] h = .ok (.bl (placeB v)) h := by
  obtain ⟨t, ht⟩ := hv.ty
  cases v with
  | tup xs =>
    simp only [F__law_is_spot, m__law_is_spot, mc_at, mvar_at, mnil_at, mcons_at, mop1_at, mop2_at, mtup_at, mlst_at, mfun_at, mand_at, mor_at, mnot_at, mandT_at, morT_at, mnotT_at, mtru_at, mbl_at, mite_at, mchain_at, mcall_at, mcallN_at, mmeth_at, msl_at, mpart0, mpart1, mdic0_at, iseq_at, irng_at, mcomp_at, fin_none, fin_v, fin_newF, fin_newT, resM_some, resM_none, isLst_ref, lstOf_ref, lstOf_lst, seqOf_tup, seqOf_lst, seqOf_ref, seqOf_scr, truth_bl, ofE_at, ofT_at, sPass_at, sExpr_at, sRet_at, sRetN_at, sAsg_at, sIf_at, sSeq_at, sFor_at, forLoop_nil, forLoop_cons, gname_at, gtup_at, go_nil, go_cons, gstar_at, gsub_at, runB_at, startE_at, wipeE_nil, wipeE_cons, isi_at, len_at, all_lst, tuple_at, list_at, isN_eq, isN_ne, isN_in, isN_notIn, cmp_int, add_int, sub_int, mod_int, fdiv_int, mul_int, mul_lst, add_lst, add_refL, app_at, join_at, isStr_str, add_tup, add_str, int_bl, int_int, sl_tup, sl_lst, sl_str, pow_int, neg_int, ix_tup, ix_lst, ix_ref, ix_scr, Res.bind_ok, Res.bind_bad, Res.bind_exc, List.getElem?_cons_zero, List.getElem?_cons_succ, List.getElem?_nil, List.map_cons, List.map_nil, List.cons_append, List.nil_append, List.append_nil, List.length_cons, List.length_nil, List.set_cons_zero, List.set_cons_succ, Option.map_some, Option.map_none, Option.isSome_some, List.replicate_succ, List.replicate_zero, if_true, if_false, reduceIte, Nat.reduceAdd, Nat.reduceSub, Nat.reduceLeDiff, Nat.reduceEqDiff, Nat.reduceLT, Bool.false_eq_true, and_self, and_true, true_and, List.drop_succ_cons, List.drop_zero, List.take_succ_cons, List.take_zero, Nat.zero_add, Nat.add_zero, Bool.not_true, Bool.not_false, Nat.sub_self, Nat.le_refl, Int.reduceLT, Int.reduceNeg, Nat.reducePow, Int.reducePow, Int.reduceToNat, Int.reduceAdd, Int.reduceSub, Int.reduceLE, Int.cast_ofNat_Int, Int.reduceBEq, List.flatten_cons, List.flatten_nil, Nat.reduceMul, Nat.one_mul, Nat.mul_one, Nat.mul_zero, Nat.zero_le, Int.reduceMul, tyOf, isSub, itemsOf, placeB]
    rw [comp_map (f := fun x => .bl (cntB x)) fun x hx => by
      simp only [mc_at, mvar_at, mnil_at, mcons_at, mop1_at, mop2_at, mtup_at, mlst_at, mfun_at, mand_at, mor_at, mnot_at, mandT_at, morT_at, mnotT_at, mtru_at, mbl_at, mite_at, mchain_at, mcall_at, mcallN_at, mmeth_at, msl_at, mpart0, mpart1, mdic0_at, iseq_at, irng_at, mcomp_at, fin_none, fin_v, fin_newF, fin_newT, resM_some, resM_none, isLst_ref, lstOf_ref, lstOf_lst, seqOf_tup, seqOf_lst, seqOf_ref, seqOf_scr, truth_bl, ofE_at, ofT_at, sPass_at, sExpr_at, sRet_at, sRetN_at, sAsg_at, sIf_at, sSeq_at, sFor_at, forLoop_nil, forLoop_cons, gname_at, gtup_at, go_nil, go_cons, gstar_at, gsub_at, runB_at, startE_at, wipeE_nil, wipeE_cons, isi_at, len_at, all_lst, tuple_at, list_at, isN_eq, isN_ne, isN_in, isN_notIn, cmp_int, add_int, sub_int, mod_int, fdiv_int, mul_int, mul_lst, add_lst, add_refL, app_at, join_at, isStr_str, add_tup, add_str, int_bl, int_int, sl_tup, sl_lst, sl_str, pow_int, neg_int, ix_tup, ix_lst, ix_ref, ix_scr, Res.bind_ok, Res.bind_bad, Res.bind_exc, List.getElem?_cons_zero, List.getElem?_cons_succ, List.getElem?_nil, List.map_cons, List.map_nil, List.cons_append, List.nil_append, List.append_nil, List.length_cons, List.length_nil, List.set_cons_zero, List.set_cons_succ, Option.map_some, Option.map_none, Option.isSome_some, List.replicate_succ, List.replicate_zero, if_true, if_false, reduceIte, Nat.reduceAdd, Nat.reduceSub, Nat.reduceLeDiff, Nat.reduceEqDiff, Nat.reduceLT, Bool.false_eq_true, and_self, and_true, true_and, List.drop_succ_cons, List.drop_zero, List.take_succ_cons, List.take_zero, Nat.zero_add, Nat.add_zero, Bool.not_true, Bool.not_false, Nat.sub_self, Nat.le_refl, Int.reduceLT, Int.reduceNeg, Nat.reducePow, Int.reducePow, Int.reduceToNat, Int.reduceAdd, Int.reduceSub, Int.reduceLE, Int.cast_ofNat_Int, Int.reduceBEq, List.flatten_cons, List.flatten_nil, Nat.reduceMul, Nat.one_mul, Nat.mul_one, Nat.mul_zero, Nat.zero_le, Int.reduceMul, F_whole x (hv.tup x hx)]
      cases x <;> simp only [intB, cntB, mc_at, mvar_at, mnil_at, mcons_at, mop1_at, mop2_at, mtup_at, mlst_at, mfun_at, mand_at, mor_at, mnot_at, mandT_at, morT_at, mnotT_at, mtru_at, mbl_at, mite_at, mchain_at, mcall_at, mcallN_at, mmeth_at, msl_at, mpart0, mpart1, mdic0_at, iseq_at, irng_at, mcomp_at, fin_none, fin_v, fin_newF, fin_newT, resM_some, resM_none, isLst_ref, lstOf_ref, lstOf_lst, seqOf_tup, seqOf_lst, seqOf_ref, seqOf_scr, truth_bl, ofE_at, ofT_at, sPass_at, sExpr_at, sRet_at, sRetN_at, sAsg_at, sIf_at, sSeq_at, sFor_at, forLoop_nil, forLoop_cons, gname_at, gtup_at, go_nil, go_cons, gstar_at, gsub_at, runB_at, startE_at, wipeE_nil, wipeE_cons, isi_at, len_at, all_lst, tuple_at, list_at, isN_eq, isN_ne, isN_in, isN_notIn, cmp_int, add_int, sub_int, mod_int, fdiv_int, mul_int, mul_lst, add_lst, add_refL, app_at, join_at, isStr_str, add_tup, add_str, int_bl, int_int, sl_tup, sl_lst, sl_str, pow_int, neg_int, ix_tup, ix_lst, ix_ref, ix_scr, Res.bind_ok, Res.bind_bad, Res.bind_exc, List.getElem?_cons_zero, List.getElem?_cons_succ, List.getElem?_nil, List.map_cons, List.map_nil, List.cons_append, List.nil_append, List.append_nil, List.length_cons, List.length_nil, List.set_cons_zero, List.set_cons_succ, Option.map_some, Option.map_none, Option.isSome_some, List.replicate_succ, List.replicate_zero, if_true, if_false, reduceIte, Nat.reduceAdd, Nat.reduceSub, Nat.reduceLeDiff, Nat.reduceEqDiff, Nat.reduceLT, Bool.false_eq_true, and_self, and_true, true_and, List.drop_succ_cons, List.drop_zero, List.take_succ_cons, List.take_zero, Nat.zero_add, Nat.add_zero, Bool.not_true, Bool.not_false, Nat.sub_self, Nat.le_refl, Int.reduceLT, Int.reduceNeg, Nat.reducePow, Int.reducePow, Int.reduceToNat, Int.reduceAdd, Int.reduceSub, Int.reduceLE, Int.cast_ofNat_Int, Int.reduceBEq, List.flatten_cons, List.flatten_nil, Nat.reduceMul, Nat.one_mul, Nat.mul_one, Nat.mul_zero, Nat.zero_le, Int.reduceMul, truth]]
    simp only [mc_at, mvar_at, mnil_at, mcons_at, mop1_at, mop2_at, mtup_at, mlst_at, mfun_at, mand_at, mor_at, mnot_at, mandT_at, morT_at, mnotT_at, mtru_at, mbl_at, mite_at, mchain_at, mcall_at, mcallN_at, mmeth_at, msl_at, mpart0, mpart1, mdic0_at, iseq_at, irng_at, mcomp_at, fin_none, fin_v, fin_newF, fin_newT, resM_some, resM_none, isLst_ref, lstOf_ref, lstOf_lst, seqOf_tup, seqOf_lst, seqOf_ref, seqOf_scr, truth_bl, ofE_at, ofT_at, sPass_at, sExpr_at, sRet_at, sRetN_at, sAsg_at, sIf_at, sSeq_at, sFor_at, forLoop_nil, forLoop_cons, gname_at, gtup_at, go_nil, go_cons, gstar_at, gsub_at, runB_at, startE_at, wipeE_nil, wipeE_cons, isi_at, len_at, all_lst, tuple_at, list_at, isN_eq, isN_ne, isN_in, isN_notIn, cmp_int, add_int, sub_int, mod_int, fdiv_int, mul_int, mul_lst, add_lst, add_refL, app_at, join_at, isStr_str, add_tup, add_str, int_bl, int_int, sl_tup, sl_lst, sl_str, pow_int, neg_int, ix_tup, ix_lst, ix_ref, ix_scr, Res.bind_ok, Res.bind_bad, Res.bind_exc, List.getElem?_cons_zero, List.getElem?_cons_succ, List.getElem?_nil, List.map_cons, List.map_nil, List.cons_append, List.nil_append, List.append_nil, List.length_cons, List.length_nil, List.set_cons_zero, List.set_cons_succ, Option.map_some, Option.map_none, Option.isSome_some, List.replicate_succ, List.replicate_zero, if_true, if_false, reduceIte, Nat.reduceAdd, Nat.reduceSub, Nat.reduceLeDiff, Nat.reduceEqDiff, Nat.reduceLT, Bool.false_eq_true, and_self, and_true, true_and, List.drop_succ_cons, List.drop_zero, List.take_succ_cons, List.take_zero, Nat.zero_add, Nat.add_zero, Bool.not_true, Bool.not_false, Nat.sub_self, Nat.le_refl, Int.reduceLT, Int.reduceNeg, Nat.reducePow, Int.reducePow, Int.reduceToNat, Int.reduceAdd, Int.reduceSub, Int.reduceLE, Int.cast_ofNat_Int, Int.reduceBEq, List.flatten_cons, List.flatten_nil, Nat.reduceMul, Nat.one_mul, Nat.mul_one, Nat.mul_zero, Nat.zero_le, Int.reduceMul, bls_map]
  | _ =>
    simp only [F__law_is_spot, m__law_is_spot, mc_at, mvar_at, mnil_at, mcons_at, mop1_at, mop2_at, mtup_at, mlst_at, mfun_at, mand_at, mor_at, mnot_at, mandT_at, morT_at, mnotT_at, mtru_at, mbl_at, mite_at, mchain_at, mcall_at, mcallN_at, mmeth_at, msl_at, mpart0, mpart1, mdic0_at, iseq_at, irng_at, mcomp_at, fin_none, fin_v, fin_newF, fin_newT, resM_some, resM_none, isLst_ref, lstOf_ref, lstOf_lst, seqOf_tup, seqOf_lst, seqOf_ref, seqOf_scr, truth_bl, ofE_at, ofT_at, sPass_at, sExpr_at, sRet_at, sRetN_at, sAsg_at, sIf_at, sSeq_at, sFor_at, forLoop_nil, forLoop_cons, gname_at, gtup_at, go_nil, go_cons, gstar_at, gsub_at, runB_at, startE_at, wipeE_nil, wipeE_cons, isi_at, len_at, all_lst, tuple_at, list_at, isN_eq, isN_ne, isN_in, isN_notIn, cmp_int, add_int, sub_int, mod_int, fdiv_int, mul_int, mul_lst, add_lst, add_refL, app_at, join_at, isStr_str, add_tup, add_str, int_bl, int_int, sl_tup, sl_lst, sl_str, pow_int, neg_int, ix_tup, ix_lst, ix_ref, ix_scr, Res.bind_ok, Res.bind_bad, Res.bind_exc, List.getElem?_cons_zero, List.getElem?_cons_succ, List.getElem?_nil, List.map_cons, List.map_nil, List.cons_append, List.nil_append, List.append_nil, List.length_cons, List.length_nil, List.set_cons_zero, List.set_cons_succ, Option.map_some, Option.map_none, Option.isSome_some, List.replicate_succ, List.replicate_zero, if_true, if_false, reduceIte, Nat.reduceAdd, Nat.reduceSub, Nat.reduceLeDiff, Nat.reduceEqDiff, Nat.reduceLT, Bool.false_eq_true, and_self, and_true, true_and, List.drop_succ_cons, List.drop_zero, List.take_succ_cons, List.take_zero, Nat.zero_add, Nat.add_zero, Bool.not_true, Bool.not_false, Nat.sub_self, Nat.le_refl, Int.reduceLT, Int.reduceNeg, Nat.reducePow, Int.reducePow, Int.reduceToNat, Int.reduceAdd, Int.reduceSub, Int.reduceLE, Int.cast_ofNat_Int, Int.reduceBEq, List.flatten_cons, List.flatten_nil, Nat.reduceMul, Nat.one_mul, Nat.mul_one, Nat.mul_zero, Nat.zero_le, Int.reduceMul, ht, placeB]
    simp only [tyOf] at ht
    first | (have := ht []; cases this; rfl) | (obtain ⟨p, e⟩ := hv; simp only [toPy] at e; cases e)
def memB (qs : List Str) (z : Str) : Bool := (qs.map D.str).any fun y => eqF y (.str z)
theorem flat_strs : ∀ qs : List Str, (qs.map D.str).all flatD = true
  | [] => rfl
  | q :: qs => flat_strs qs
theorem in_strs (z : Str) (qs : List Str) (h : Hd) : isIn (.str z) (.tup (qs.map D.str)) h = some (memB qs z) := by
  show (if flatD (.str z) = true ∧ (qs.map D.str).all flatD = true then _ else _) = _
  rw [if_pos ⟨rfl, flat_strs qs⟩]
  rfl
theorem mem_of {qs : List Str} {z : Str} (h : memB qs z = true) : z ∈ qs := by
  unfold memB at h
  rw [List.any_eq_true] at h
  obtain ⟨y, hy, e⟩ := h
  obtain ⟨q, hq, rfl⟩ := List.mem_map.mp hy
  have : q = z := by simpa [eqF] using e
  exact this ▸ hq
def wordB (qs : List Str) : D → Bool
  | .str z => madeB LET 8 (.str z) || memB qs z
  | _ => false
theorem F_wordE (v : D) (hv : Fz v) (qs : List Str) (h : Hd) : F_is_word [v, .tup (qs.map .str)] h = .ok (.bl (wordB qs v)) h := by
  obtain ⟨t, ht⟩ := hv.ty
  simp only [F_is_word, m_is_word, mc_at, mvar_at, mnil_at, mcons_at, mop1_at, mop2_at, mtup_at, mlst_at, mfun_at, mand_at, mor_at, mnot_at, mandT_at, morT_at, mnotT_at, mtru_at, mbl_at, mite_at, mchain_at, mcall_at, mcallN_at, mmeth_at, msl_at, mpart0, mpart1, mdic0_at, iseq_at, irng_at, mcomp_at, fin_none, fin_v, fin_newF, fin_newT, resM_some, resM_none, isLst_ref, lstOf_ref, lstOf_lst, seqOf_tup, seqOf_lst, seqOf_ref, seqOf_scr, truth_bl, ofE_at, ofT_at, sPass_at, sExpr_at, sRet_at, sRetN_at, sAsg_at, sIf_at, sSeq_at, sFor_at, forLoop_nil, forLoop_cons, gname_at, gtup_at, go_nil, go_cons, gstar_at, gsub_at, runB_at, startE_at, wipeE_nil, wipeE_cons, isi_at, len_at, all_lst, tuple_at, list_at, isN_eq, isN_ne, isN_in, isN_notIn, cmp_int, add_int, sub_int, mod_int, fdiv_int, mul_int, mul_lst, add_lst, add_refL, app_at, join_at, isStr_str, add_tup, add_str, int_bl, int_int, sl_tup, sl_lst, sl_str, pow_int, neg_int, ix_tup, ix_lst, ix_ref, ix_scr, Res.bind_ok, Res.bind_bad, Res.bind_exc, List.getElem?_cons_zero, List.getElem?_cons_succ, List.getElem?_nil, List.map_cons, List.map_nil, List.cons_append, List.nil_append, List.append_nil, List.length_cons, List.length_nil, List.set_cons_zero, List.set_cons_succ, Option.map_some, Option.map_none, Option.isSome_some, List.replicate_succ, List.replicate_zero, if_true, if_false, reduceIte, Nat.reduceAdd, Nat.reduceSub, Nat.reduceLeDiff, Nat.reduceEqDiff, Nat.reduceLT, Bool.false_eq_true, and_self, and_true, true_and, List.drop_succ_cons, List.drop_zero, List.take_succ_cons, List.take_zero, Nat.zero_add, Nat.add_zero, Bool.not_true, Bool.not_false, Nat.sub_self, Nat.le_refl, Int.reduceLT, Int.reduceNeg, Nat.reducePow, Int.reducePow, Int.reduceToNat, Int.reduceAdd, Int.reduceSub, Int.reduceLE, Int.cast_ofNat_Int, Int.reduceBEq, List.flatten_cons, List.flatten_nil, Nat.reduceMul, Nat.one_mul, Nat.mul_one, Nat.mul_zero, Nat.zero_le, Int.reduceMul, F_name v hv]
  cases v with
  | str z =>
    cases hm : madeB LET 8 (.str z) with
    | true => simp only [mc_at, mvar_at, mnil_at, mcons_at, mop1_at, mop2_at, mtup_at, mlst_at, mfun_at, mand_at, mor_at, mnot_at, mandT_at, morT_at, mnotT_at, mtru_at, mbl_at, mite_at, mchain_at, mcall_at, mcallN_at, mmeth_at, msl_at, mpart0, mpart1, mdic0_at, iseq_at, irng_at, mcomp_at, fin_none, fin_v, fin_newF, fin_newT, resM_some, resM_none, isLst_ref, lstOf_ref, lstOf_lst, seqOf_tup, seqOf_lst, seqOf_ref, seqOf_scr, truth_bl, ofE_at, ofT_at, sPass_at, sExpr_at, sRet_at, sRetN_at, sAsg_at, sIf_at, sSeq_at, sFor_at, forLoop_nil, forLoop_cons, gname_at, gtup_at, go_nil, go_cons, gstar_at, gsub_at, runB_at, startE_at, wipeE_nil, wipeE_cons, isi_at, len_at, all_lst, tuple_at, list_at, isN_eq, isN_ne, isN_in, isN_notIn, cmp_int, add_int, sub_int, mod_int, fdiv_int, mul_int, mul_lst, add_lst, add_refL, app_at, join_at, isStr_str, add_tup, add_str, int_bl, int_int, sl_tup, sl_lst, sl_str, pow_int, neg_int, ix_tup, ix_lst, ix_ref, ix_scr, Res.bind_ok, Res.bind_bad, Res.bind_exc, List.getElem?_cons_zero, List.getElem?_cons_succ, List.getElem?_nil, List.map_cons, List.map_nil, List.cons_append, List.nil_append, List.append_nil, List.length_cons, List.length_nil, List.set_cons_zero, List.set_cons_succ, Option.map_some, Option.map_none, Option.isSome_some, List.replicate_succ, List.replicate_zero, if_true, if_false, reduceIte, Nat.reduceAdd, Nat.reduceSub, Nat.reduceLeDiff, Nat.reduceEqDiff, Nat.reduceLT, Bool.false_eq_true, and_self, and_true, true_and, List.drop_succ_cons, List.drop_zero, List.take_succ_cons, List.take_zero, Nat.zero_add, Nat.add_zero, Bool.not_true, Bool.not_false, Nat.sub_self, Nat.le_refl, Int.reduceLT, Int.reduceNeg, Nat.reducePow, Int.reducePow, Int.reduceToNat, Int.reduceAdd, Int.reduceSub, Int.reduceLE, Int.cast_ofNat_Int, Int.reduceBEq, List.flatten_cons, List.flatten_nil, Nat.reduceMul, Nat.one_mul, Nat.mul_one, Nat.mul_zero, Nat.zero_le, Int.reduceMul, wordB, hm, Bool.true_or]
    | false => simp only [mc_at, mvar_at, mnil_at, mcons_at, mop1_at, mop2_at, mtup_at, mlst_at, mfun_at, mand_at, mor_at, mnot_at, mandT_at, morT_at, mnotT_at, mtru_at, mbl_at, mite_at, mchain_at, mcall_at, mcallN_at, mmeth_at, msl_at, mpart0, mpart1, mdic0_at, iseq_at, irng_at, mcomp_at, fin_none, fin_v, fin_newF, fin_newT, resM_some, resM_none, isLst_ref, lstOf_ref, lstOf_lst, seqOf_tup, seqOf_lst, seqOf_ref, seqOf_scr, truth_bl, ofE_at, ofT_at, sPass_at, sExpr_at, sRet_at, sRetN_at, sAsg_at, sIf_at, sSeq_at, sFor_at, forLoop_nil, forLoop_cons, gname_at, gtup_at, go_nil, go_cons, gstar_at, gsub_at, runB_at, startE_at, wipeE_nil, wipeE_cons, isi_at, len_at, all_lst, tuple_at, list_at, isN_eq, isN_ne, isN_in, isN_notIn, cmp_int, add_int, sub_int, mod_int, fdiv_int, mul_int, mul_lst, add_lst, add_refL, app_at, join_at, isStr_str, add_tup, add_str, int_bl, int_int, sl_tup, sl_lst, sl_str, pow_int, neg_int, ix_tup, ix_lst, ix_ref, ix_scr, Res.bind_ok, Res.bind_bad, Res.bind_exc, List.getElem?_cons_zero, List.getElem?_cons_succ, List.getElem?_nil, List.map_cons, List.map_nil, List.cons_append, List.nil_append, List.append_nil, List.length_cons, List.length_nil, List.set_cons_zero, List.set_cons_succ, Option.map_some, Option.map_none, Option.isSome_some, List.replicate_succ, List.replicate_zero, if_true, if_false, reduceIte, Nat.reduceAdd, Nat.reduceSub, Nat.reduceLeDiff, Nat.reduceEqDiff, Nat.reduceLT, Bool.false_eq_true, and_self, and_true, true_and, List.drop_succ_cons, List.drop_zero, List.take_succ_cons, List.take_zero, Nat.zero_add, Nat.add_zero, Bool.not_true, Bool.not_false, Nat.sub_self, Nat.le_refl, Int.reduceLT, Int.reduceNeg, Nat.reducePow, Int.reducePow, Int.reduceToNat, Int.reduceAdd, Int.reduceSub, Int.reduceLE, Int.cast_ofNat_Int, Int.reduceBEq, List.flatten_cons, List.flatten_nil, Nat.reduceMul, Nat.one_mul, Nat.mul_one, Nat.mul_zero, Nat.zero_le, Int.reduceMul, wordB, hm, Bool.false_or, tyOf, isSub, in_strs]
  | _ =>
    simp only [mc_at, mvar_at, mnil_at, mcons_at, mop1_at, mop2_at, mtup_at, mlst_at, mfun_at, mand_at, mor_at, mnot_at, mandT_at, morT_at, mnotT_at, mtru_at, mbl_at, mite_at, mchain_at, mcall_at, mcallN_at, mmeth_at, msl_at, mpart0, mpart1, mdic0_at, iseq_at, irng_at, mcomp_at, fin_none, fin_v, fin_newF, fin_newT, resM_some, resM_none, isLst_ref, lstOf_ref, lstOf_lst, seqOf_tup, seqOf_lst, seqOf_ref, seqOf_scr, truth_bl, ofE_at, ofT_at, sPass_at, sExpr_at, sRet_at, sRetN_at, sAsg_at, sIf_at, sSeq_at, sFor_at, forLoop_nil, forLoop_cons, gname_at, gtup_at, go_nil, go_cons, gstar_at, gsub_at, runB_at, startE_at, wipeE_nil, wipeE_cons, isi_at, len_at, all_lst, tuple_at, list_at, isN_eq, isN_ne, isN_in, isN_notIn, cmp_int, add_int, sub_int, mod_int, fdiv_int, mul_int, mul_lst, add_lst, add_refL, app_at, join_at, isStr_str, add_tup, add_str, int_bl, int_int, sl_tup, sl_lst, sl_str, pow_int, neg_int, ix_tup, ix_lst, ix_ref, ix_scr, Res.bind_ok, Res.bind_bad, Res.bind_exc, List.getElem?_cons_zero, List.getElem?_cons_succ, List.getElem?_nil, List.map_cons, List.map_nil, List.cons_append, List.nil_append, List.append_nil, List.length_cons, List.length_nil, List.set_cons_zero, List.set_cons_succ, Option.map_some, Option.map_none, Option.isSome_some, List.replicate_succ, List.replicate_zero, if_true, if_false, reduceIte, Nat.reduceAdd, Nat.reduceSub, Nat.reduceLeDiff, Nat.reduceEqDiff, Nat.reduceLT, Bool.false_eq_true, and_self, and_true, true_and, List.drop_succ_cons, List.drop_zero, List.take_succ_cons, List.take_zero, Nat.zero_add, Nat.add_zero, Bool.not_true, Bool.not_false, Nat.sub_self, Nat.le_refl, Int.reduceLT, Int.reduceNeg, Nat.reducePow, Int.reducePow, Int.reduceToNat, Int.reduceAdd, Int.reduceSub, Int.reduceLE, Int.cast_ofNat_Int, Int.reduceBEq, List.flatten_cons, List.flatten_nil, Nat.reduceMul, Nat.one_mul, Nat.mul_one, Nat.mul_zero, Nat.zero_le, Int.reduceMul, ht, madeB, wordB]
    simp only [tyOf] at ht
    first | (have := ht []; cases this; rfl) | (obtain ⟨p, e⟩ := hv; simp only [toPy] at e; cases e)
theorem F_fitE (v : D) (hv : Fz v) (qs : List Str) (hq : ∀ q ∈ qs, madeB CAP 4 (.str q) = true) (h : Hd) : F__law_is_fit [v, .tup (qs.map .str)] h = .ok (.bl (wordB qs v)) h := by
  simp only [F__law_is_fit, m__law_is_fit, mc_at, mvar_at, mnil_at, mcons_at, mop1_at, mop2_at, mtup_at, mlst_at, mfun_at, mand_at, mor_at, mnot_at, mandT_at, morT_at, mnotT_at, mtru_at, mbl_at, mite_at, mchain_at, mcall_at, mcallN_at, mmeth_at, msl_at, mpart0, mpart1, mdic0_at, iseq_at, irng_at, mcomp_at, fin_none, fin_v, fin_newF, fin_newT, resM_some, resM_none, isLst_ref, lstOf_ref, lstOf_lst, seqOf_tup, seqOf_lst, seqOf_ref, seqOf_scr, truth_bl, ofE_at, ofT_at, sPass_at, sExpr_at, sRet_at, sRetN_at, sAsg_at, sIf_at, sSeq_at, sFor_at, forLoop_nil, forLoop_cons, gname_at, gtup_at, go_nil, go_cons, gstar_at, gsub_at, runB_at, startE_at, wipeE_nil, wipeE_cons, isi_at, len_at, all_lst, tuple_at, list_at, isN_eq, isN_ne, isN_in, isN_notIn, cmp_int, add_int, sub_int, mod_int, fdiv_int, mul_int, mul_lst, add_lst, add_refL, app_at, join_at, isStr_str, add_tup, add_str, int_bl, int_int, sl_tup, sl_lst, sl_str, pow_int, neg_int, ix_tup, ix_lst, ix_ref, ix_scr, Res.bind_ok, Res.bind_bad, Res.bind_exc, List.getElem?_cons_zero, List.getElem?_cons_succ, List.getElem?_nil, List.map_cons, List.map_nil, List.cons_append, List.nil_append, List.append_nil, List.length_cons, List.length_nil, List.set_cons_zero, List.set_cons_succ, Option.map_some, Option.map_none, Option.isSome_some, List.replicate_succ, List.replicate_zero, if_true, if_false, reduceIte, Nat.reduceAdd, Nat.reduceSub, Nat.reduceLeDiff, Nat.reduceEqDiff, Nat.reduceLT, Bool.false_eq_true, and_self, and_true, true_and, List.drop_succ_cons, List.drop_zero, List.take_succ_cons, List.take_zero, Nat.zero_add, Nat.add_zero, Bool.not_true, Bool.not_false, Nat.sub_self, Nat.le_refl, Int.reduceLT, Int.reduceNeg, Nat.reducePow, Int.reducePow, Int.reduceToNat, Int.reduceAdd, Int.reduceSub, Int.reduceLE, Int.cast_ofNat_Int, Int.reduceBEq, List.flatten_cons, List.flatten_nil, Nat.reduceMul, Nat.one_mul, Nat.mul_one, Nat.mul_zero, Nat.zero_le, Int.reduceMul, F_small v hv, F_great v hv]
  cases v with
  | str z =>
    cases hm : madeB LET 8 (.str z) with
    | true => simp only [mc_at, mvar_at, mnil_at, mcons_at, mop1_at, mop2_at, mtup_at, mlst_at, mfun_at, mand_at, mor_at, mnot_at, mandT_at, morT_at, mnotT_at, mtru_at, mbl_at, mite_at, mchain_at, mcall_at, mcallN_at, mmeth_at, msl_at, mpart0, mpart1, mdic0_at, iseq_at, irng_at, mcomp_at, fin_none, fin_v, fin_newF, fin_newT, resM_some, resM_none, isLst_ref, lstOf_ref, lstOf_lst, seqOf_tup, seqOf_lst, seqOf_ref, seqOf_scr, truth_bl, ofE_at, ofT_at, sPass_at, sExpr_at, sRet_at, sRetN_at, sAsg_at, sIf_at, sSeq_at, sFor_at, forLoop_nil, forLoop_cons, gname_at, gtup_at, go_nil, go_cons, gstar_at, gsub_at, runB_at, startE_at, wipeE_nil, wipeE_cons, isi_at, len_at, all_lst, tuple_at, list_at, isN_eq, isN_ne, isN_in, isN_notIn, cmp_int, add_int, sub_int, mod_int, fdiv_int, mul_int, mul_lst, add_lst, add_refL, app_at, join_at, isStr_str, add_tup, add_str, int_bl, int_int, sl_tup, sl_lst, sl_str, pow_int, neg_int, ix_tup, ix_lst, ix_ref, ix_scr, Res.bind_ok, Res.bind_bad, Res.bind_exc, List.getElem?_cons_zero, List.getElem?_cons_succ, List.getElem?_nil, List.map_cons, List.map_nil, List.cons_append, List.nil_append, List.append_nil, List.length_cons, List.length_nil, List.set_cons_zero, List.set_cons_succ, Option.map_some, Option.map_none, Option.isSome_some, List.replicate_succ, List.replicate_zero, if_true, if_false, reduceIte, Nat.reduceAdd, Nat.reduceSub, Nat.reduceLeDiff, Nat.reduceEqDiff, Nat.reduceLT, Bool.false_eq_true, and_self, and_true, true_and, List.drop_succ_cons, List.drop_zero, List.take_succ_cons, List.take_zero, Nat.zero_add, Nat.add_zero, Bool.not_true, Bool.not_false, Nat.sub_self, Nat.le_refl, Int.reduceLT, Int.reduceNeg, Nat.reducePow, Int.reducePow, Int.reduceToNat, Int.reduceAdd, Int.reduceSub, Int.reduceLE, Int.cast_ofNat_Int, Int.reduceBEq, List.flatten_cons, List.flatten_nil, Nat.reduceMul, Nat.one_mul, Nat.mul_one, Nat.mul_zero, Nat.zero_le, Int.reduceMul, wordB, hm, Bool.true_or]
    | false =>
      cases hg : madeB CAP 4 (.str z) with
      | true => simp only [mc_at, mvar_at, mnil_at, mcons_at, mop1_at, mop2_at, mtup_at, mlst_at, mfun_at, mand_at, mor_at, mnot_at, mandT_at, morT_at, mnotT_at, mtru_at, mbl_at, mite_at, mchain_at, mcall_at, mcallN_at, mmeth_at, msl_at, mpart0, mpart1, mdic0_at, iseq_at, irng_at, mcomp_at, fin_none, fin_v, fin_newF, fin_newT, resM_some, resM_none, isLst_ref, lstOf_ref, lstOf_lst, seqOf_tup, seqOf_lst, seqOf_ref, seqOf_scr, truth_bl, ofE_at, ofT_at, sPass_at, sExpr_at, sRet_at, sRetN_at, sAsg_at, sIf_at, sSeq_at, sFor_at, forLoop_nil, forLoop_cons, gname_at, gtup_at, go_nil, go_cons, gstar_at, gsub_at, runB_at, startE_at, wipeE_nil, wipeE_cons, isi_at, len_at, all_lst, tuple_at, list_at, isN_eq, isN_ne, isN_in, isN_notIn, cmp_int, add_int, sub_int, mod_int, fdiv_int, mul_int, mul_lst, add_lst, add_refL, app_at, join_at, isStr_str, add_tup, add_str, int_bl, int_int, sl_tup, sl_lst, sl_str, pow_int, neg_int, ix_tup, ix_lst, ix_ref, ix_scr, Res.bind_ok, Res.bind_bad, Res.bind_exc, List.getElem?_cons_zero, List.getElem?_cons_succ, List.getElem?_nil, List.map_cons, List.map_nil, List.cons_append, List.nil_append, List.append_nil, List.length_cons, List.length_nil, List.set_cons_zero, List.set_cons_succ, Option.map_some, Option.map_none, Option.isSome_some, List.replicate_succ, List.replicate_zero, if_true, if_false, reduceIte, Nat.reduceAdd, Nat.reduceSub, Nat.reduceLeDiff, Nat.reduceEqDiff, Nat.reduceLT, Bool.false_eq_true, and_self, and_true, true_and, List.drop_succ_cons, List.drop_zero, List.take_succ_cons, List.take_zero, Nat.zero_add, Nat.add_zero, Bool.not_true, Bool.not_false, Nat.sub_self, Nat.le_refl, Int.reduceLT, Int.reduceNeg, Nat.reducePow, Int.reducePow, Int.reduceToNat, Int.reduceAdd, Int.reduceSub, Int.reduceLE, Int.cast_ofNat_Int, Int.reduceBEq, List.flatten_cons, List.flatten_nil, Nat.reduceMul, Nat.one_mul, Nat.mul_one, Nat.mul_zero, Nat.zero_le, Int.reduceMul, wordB, hm, hg, Bool.false_or, in_strs]
      | false =>
        have hn : memB qs z = false := by
          cases e : memB qs z with
          | false => rfl
          | true => rw [hq z (mem_of e)] at hg; cases hg
        simp only [mc_at, mvar_at, mnil_at, mcons_at, mop1_at, mop2_at, mtup_at, mlst_at, mfun_at, mand_at, mor_at, mnot_at, mandT_at, morT_at, mnotT_at, mtru_at, mbl_at, mite_at, mchain_at, mcall_at, mcallN_at, mmeth_at, msl_at, mpart0, mpart1, mdic0_at, iseq_at, irng_at, mcomp_at, fin_none, fin_v, fin_newF, fin_newT, resM_some, resM_none, isLst_ref, lstOf_ref, lstOf_lst, seqOf_tup, seqOf_lst, seqOf_ref, seqOf_scr, truth_bl, ofE_at, ofT_at, sPass_at, sExpr_at, sRet_at, sRetN_at, sAsg_at, sIf_at, sSeq_at, sFor_at, forLoop_nil, forLoop_cons, gname_at, gtup_at, go_nil, go_cons, gstar_at, gsub_at, runB_at, startE_at, wipeE_nil, wipeE_cons, isi_at, len_at, all_lst, tuple_at, list_at, isN_eq, isN_ne, isN_in, isN_notIn, cmp_int, add_int, sub_int, mod_int, fdiv_int, mul_int, mul_lst, add_lst, add_refL, app_at, join_at, isStr_str, add_tup, add_str, int_bl, int_int, sl_tup, sl_lst, sl_str, pow_int, neg_int, ix_tup, ix_lst, ix_ref, ix_scr, Res.bind_ok, Res.bind_bad, Res.bind_exc, List.getElem?_cons_zero, List.getElem?_cons_succ, List.getElem?_nil, List.map_cons, List.map_nil, List.cons_append, List.nil_append, List.append_nil, List.length_cons, List.length_nil, List.set_cons_zero, List.set_cons_succ, Option.map_some, Option.map_none, Option.isSome_some, List.replicate_succ, List.replicate_zero, if_true, if_false, reduceIte, Nat.reduceAdd, Nat.reduceSub, Nat.reduceLeDiff, Nat.reduceEqDiff, Nat.reduceLT, Bool.false_eq_true, and_self, and_true, true_and, List.drop_succ_cons, List.drop_zero, List.take_succ_cons, List.take_zero, Nat.zero_add, Nat.add_zero, Bool.not_true, Bool.not_false, Nat.sub_self, Nat.le_refl, Int.reduceLT, Int.reduceNeg, Nat.reducePow, Int.reducePow, Int.reduceToNat, Int.reduceAdd, Int.reduceSub, Int.reduceLE, Int.cast_ofNat_Int, Int.reduceBEq, List.flatten_cons, List.flatten_nil, Nat.reduceMul, Nat.one_mul, Nat.mul_one, Nat.mul_zero, Nat.zero_le, Int.reduceMul, wordB, hm, hg, hn, Bool.false_or]
  | _ => simp only [mc_at, mvar_at, mnil_at, mcons_at, mop1_at, mop2_at, mtup_at, mlst_at, mfun_at, mand_at, mor_at, mnot_at, mandT_at, morT_at, mnotT_at, mtru_at, mbl_at, mite_at, mchain_at, mcall_at, mcallN_at, mmeth_at, msl_at, mpart0, mpart1, mdic0_at, iseq_at, irng_at, mcomp_at, fin_none, fin_v, fin_newF, fin_newT, resM_some, resM_none, isLst_ref, lstOf_ref, lstOf_lst, seqOf_tup, seqOf_lst, seqOf_ref, seqOf_scr, truth_bl, ofE_at, ofT_at, sPass_at, sExpr_at, sRet_at, sRetN_at, sAsg_at, sIf_at, sSeq_at, sFor_at, forLoop_nil, forLoop_cons, gname_at, gtup_at, go_nil, go_cons, gstar_at, gsub_at, runB_at, startE_at, wipeE_nil, wipeE_cons, isi_at, len_at, all_lst, tuple_at, list_at, isN_eq, isN_ne, isN_in, isN_notIn, cmp_int, add_int, sub_int, mod_int, fdiv_int, mul_int, mul_lst, add_lst, add_refL, app_at, join_at, isStr_str, add_tup, add_str, int_bl, int_int, sl_tup, sl_lst, sl_str, pow_int, neg_int, ix_tup, ix_lst, ix_ref, ix_scr, Res.bind_ok, Res.bind_bad, Res.bind_exc, List.getElem?_cons_zero, List.getElem?_cons_succ, List.getElem?_nil, List.map_cons, List.map_nil, List.cons_append, List.nil_append, List.append_nil, List.length_cons, List.length_nil, List.set_cons_zero, List.set_cons_succ, Option.map_some, Option.map_none, Option.isSome_some, List.replicate_succ, List.replicate_zero, if_true, if_false, reduceIte, Nat.reduceAdd, Nat.reduceSub, Nat.reduceLeDiff, Nat.reduceEqDiff, Nat.reduceLT, Bool.false_eq_true, and_self, and_true, true_and, List.drop_succ_cons, List.drop_zero, List.take_succ_cons, List.take_zero, Nat.zero_add, Nat.add_zero, Bool.not_true, Bool.not_false, Nat.sub_self, Nat.le_refl, Int.reduceLT, Int.reduceNeg, Nat.reducePow, Int.reducePow, Int.reduceToNat, Int.reduceAdd, Int.reduceSub, Int.reduceLE, Int.cast_ofNat_Int, Int.reduceBEq, List.flatten_cons, List.flatten_nil, Nat.reduceMul, Nat.one_mul, Nat.mul_one, Nat.mul_zero, Nat.zero_le, Int.reduceMul, madeB, wordB]
def startB (b : Bool) : D → Bool
  | .str s => memB ["root", "here", "there"] s && !(s == "there" && !b)
  | _ => false
def pathB (qs : List Str) (b : Bool) : D → Bool
  | .tup (d :: ws) => decide ((ws.length : Int) + 1 ≤ 7) && (startB b d && (ws.map (wordB qs)).all id)
  | _ => false
theorem F_pathE (v : D) (hv : Fz v) (qs : List Str) (b : Bool) (h : Hd) : F_is_path [v, .tup (qs.map .str), .bl b] h = .ok (.bl (pathB qs b v)) h := by
  obtain ⟨t, ht⟩ := hv.ty
  cases v with
  | tup xs =>
    cases xs with
    | nil =>
      simp only [F_is_path, m_is_path, mc_at, mvar_at, mnil_at, mcons_at, mop1_at, mop2_at, mtup_at, mlst_at, mfun_at, mand_at, mor_at, mnot_at, mandT_at, morT_at, mnotT_at, mtru_at, mbl_at, mite_at, mchain_at, mcall_at, mcallN_at, mmeth_at, msl_at, mpart0, mpart1, mdic0_at, iseq_at, irng_at, mcomp_at, fin_none, fin_v, fin_newF, fin_newT, resM_some, resM_none, isLst_ref, lstOf_ref, lstOf_lst, seqOf_tup, seqOf_lst, seqOf_ref, seqOf_scr, truth_bl, ofE_at, ofT_at, sPass_at, sExpr_at, sRet_at, sRetN_at, sAsg_at, sIf_at, sSeq_at, sFor_at, forLoop_nil, forLoop_cons, gname_at, gtup_at, go_nil, go_cons, gstar_at, gsub_at, runB_at, startE_at, wipeE_nil, wipeE_cons, isi_at, len_at, all_lst, tuple_at, list_at, isN_eq, isN_ne, isN_in, isN_notIn, cmp_int, add_int, sub_int, mod_int, fdiv_int, mul_int, mul_lst, add_lst, add_refL, app_at, join_at, isStr_str, add_tup, add_str, int_bl, int_int, sl_tup, sl_lst, sl_str, pow_int, neg_int, ix_tup, ix_lst, ix_ref, ix_scr, Res.bind_ok, Res.bind_bad, Res.bind_exc, List.getElem?_cons_zero, List.getElem?_cons_succ, List.getElem?_nil, List.map_cons, List.map_nil, List.cons_append, List.nil_append, List.append_nil, List.length_cons, List.length_nil, List.set_cons_zero, List.set_cons_succ, Option.map_some, Option.map_none, Option.isSome_some, List.replicate_succ, List.replicate_zero, if_true, if_false, reduceIte, Nat.reduceAdd, Nat.reduceSub, Nat.reduceLeDiff, Nat.reduceEqDiff, Nat.reduceLT, Bool.false_eq_true, and_self, and_true, true_and, List.drop_succ_cons, List.drop_zero, List.take_succ_cons, List.take_zero, Nat.zero_add, Nat.add_zero, Bool.not_true, Bool.not_false, Nat.sub_self, Nat.le_refl, Int.reduceLT, Int.reduceNeg, Nat.reducePow, Int.reducePow, Int.reduceToNat, Int.reduceAdd, Int.reduceSub, Int.reduceLE, Int.cast_ofNat_Int, Int.reduceBEq, List.flatten_cons, List.flatten_nil, Nat.reduceMul, Nat.one_mul, Nat.mul_one, Nat.mul_zero, Nat.zero_le, Int.reduceMul, tyOf, isSub, lenOf, truth, pathB, d_MOST_WORDS]
      rfl
    | cons d ws =>
      simp only [F_is_path, m_is_path, mc_at, mvar_at, mnil_at, mcons_at, mop1_at, mop2_at, mtup_at, mlst_at, mfun_at, mand_at, mor_at, mnot_at, mandT_at, morT_at, mnotT_at, mtru_at, mbl_at, mite_at, mchain_at, mcall_at, mcallN_at, mmeth_at, msl_at, mpart0, mpart1, mdic0_at, iseq_at, irng_at, mcomp_at, fin_none, fin_v, fin_newF, fin_newT, resM_some, resM_none, isLst_ref, lstOf_ref, lstOf_lst, seqOf_tup, seqOf_lst, seqOf_ref, seqOf_scr, truth_bl, ofE_at, ofT_at, sPass_at, sExpr_at, sRet_at, sRetN_at, sAsg_at, sIf_at, sSeq_at, sFor_at, forLoop_nil, forLoop_cons, gname_at, gtup_at, go_nil, go_cons, gstar_at, gsub_at, runB_at, startE_at, wipeE_nil, wipeE_cons, isi_at, len_at, all_lst, tuple_at, list_at, isN_eq, isN_ne, isN_in, isN_notIn, cmp_int, add_int, sub_int, mod_int, fdiv_int, mul_int, mul_lst, add_lst, add_refL, app_at, join_at, isStr_str, add_tup, add_str, int_bl, int_int, sl_tup, sl_lst, sl_str, pow_int, neg_int, ix_tup, ix_lst, ix_ref, ix_scr, Res.bind_ok, Res.bind_bad, Res.bind_exc, List.getElem?_cons_zero, List.getElem?_cons_succ, List.getElem?_nil, List.map_cons, List.map_nil, List.cons_append, List.nil_append, List.append_nil, List.length_cons, List.length_nil, List.set_cons_zero, List.set_cons_succ, Option.map_some, Option.map_none, Option.isSome_some, List.replicate_succ, List.replicate_zero, if_true, if_false, reduceIte, Nat.reduceAdd, Nat.reduceSub, Nat.reduceLeDiff, Nat.reduceEqDiff, Nat.reduceLT, Bool.false_eq_true, and_self, and_true, true_and, List.drop_succ_cons, List.drop_zero, List.take_succ_cons, List.take_zero, Nat.zero_add, Nat.add_zero, Bool.not_true, Bool.not_false, Nat.sub_self, Nat.le_refl, Int.reduceLT, Int.reduceNeg, Nat.reducePow, Int.reducePow, Int.reduceToNat, Int.reduceAdd, Int.reduceSub, Int.reduceLE, Int.cast_ofNat_Int, Int.reduceBEq, List.flatten_cons, List.flatten_nil, Nat.reduceMul, Nat.one_mul, Nat.mul_one, Nat.mul_zero, Nat.zero_le, Int.reduceMul, tyOf, isSub, lenOf, truth, pathB, d_MOST_WORDS, Int.natCast_add, Int.cast_ofNat_Int]
      have e1 : (1 : Int) ≤ (ws.length : Int) + 1 := by omega
      by_cases h2 : (ws.length : Int) + 1 ≤ 7
      · simp only [e1, h2, decide_true, mc_at, mvar_at, mnil_at, mcons_at, mop1_at, mop2_at, mtup_at, mlst_at, mfun_at, mand_at, mor_at, mnot_at, mandT_at, morT_at, mnotT_at, mtru_at, mbl_at, mite_at, mchain_at, mcall_at, mcallN_at, mmeth_at, msl_at, mpart0, mpart1, mdic0_at, iseq_at, irng_at, mcomp_at, fin_none, fin_v, fin_newF, fin_newT, resM_some, resM_none, isLst_ref, lstOf_ref, lstOf_lst, seqOf_tup, seqOf_lst, seqOf_ref, seqOf_scr, truth_bl, ofE_at, ofT_at, sPass_at, sExpr_at, sRet_at, sRetN_at, sAsg_at, sIf_at, sSeq_at, sFor_at, forLoop_nil, forLoop_cons, gname_at, gtup_at, go_nil, go_cons, gstar_at, gsub_at, runB_at, startE_at, wipeE_nil, wipeE_cons, isi_at, len_at, all_lst, tuple_at, list_at, isN_eq, isN_ne, isN_in, isN_notIn, cmp_int, add_int, sub_int, mod_int, fdiv_int, mul_int, mul_lst, add_lst, add_refL, app_at, join_at, isStr_str, add_tup, add_str, int_bl, int_int, sl_tup, sl_lst, sl_str, pow_int, neg_int, ix_tup, ix_lst, ix_ref, ix_scr, Res.bind_ok, Res.bind_bad, Res.bind_exc, List.getElem?_cons_zero, List.getElem?_cons_succ, List.getElem?_nil, List.map_cons, List.map_nil, List.cons_append, List.nil_append, List.append_nil, List.length_cons, List.length_nil, List.set_cons_zero, List.set_cons_succ, Option.map_some, Option.map_none, Option.isSome_some, List.replicate_succ, List.replicate_zero, if_true, if_false, reduceIte, Nat.reduceAdd, Nat.reduceSub, Nat.reduceLeDiff, Nat.reduceEqDiff, Nat.reduceLT, Bool.false_eq_true, and_self, and_true, true_and, List.drop_succ_cons, List.drop_zero, List.take_succ_cons, List.take_zero, Nat.zero_add, Nat.add_zero, Bool.not_true, Bool.not_false, Nat.sub_self, Nat.le_refl, Int.reduceLT, Int.reduceNeg, Nat.reducePow, Int.reducePow, Int.reduceToNat, Int.reduceAdd, Int.reduceSub, Int.reduceLE, Int.cast_ofNat_Int, Int.reduceBEq, List.flatten_cons, List.flatten_nil, Nat.reduceMul, Nat.one_mul, Nat.mul_one, Nat.mul_zero, Nat.zero_le, Int.reduceMul, Int.reduceAdd, Nat.zero_lt_succ, Nat.le_add_left, Bool.true_and]
        have hw : ∀ x ∈ ws, Fz x := fun x hx => hv.tup x (List.mem_cons_of_mem _ hx)
        have loop : compLoop (gname 5) yes (mcall F_is_word 2 [] (mcons (mvar 5) (mcons (mvar 1) mnil))) [some (.tup (d :: ws)), some (.tup (qs.map .str)), some (.bl b), some d, some (.lst ws), none] ws [] h = some ([] ++ ws.map fun x => .bl (wordB qs x), h) :=
          comp_map fun x hx => by simp only [mc_at, mvar_at, mnil_at, mcons_at, mop1_at, mop2_at, mtup_at, mlst_at, mfun_at, mand_at, mor_at, mnot_at, mandT_at, morT_at, mnotT_at, mtru_at, mbl_at, mite_at, mchain_at, mcall_at, mcallN_at, mmeth_at, msl_at, mpart0, mpart1, mdic0_at, iseq_at, irng_at, mcomp_at, fin_none, fin_v, fin_newF, fin_newT, resM_some, resM_none, isLst_ref, lstOf_ref, lstOf_lst, seqOf_tup, seqOf_lst, seqOf_ref, seqOf_scr, truth_bl, ofE_at, ofT_at, sPass_at, sExpr_at, sRet_at, sRetN_at, sAsg_at, sIf_at, sSeq_at, sFor_at, forLoop_nil, forLoop_cons, gname_at, gtup_at, go_nil, go_cons, gstar_at, gsub_at, runB_at, startE_at, wipeE_nil, wipeE_cons, isi_at, len_at, all_lst, tuple_at, list_at, isN_eq, isN_ne, isN_in, isN_notIn, cmp_int, add_int, sub_int, mod_int, fdiv_int, mul_int, mul_lst, add_lst, add_refL, app_at, join_at, isStr_str, add_tup, add_str, int_bl, int_int, sl_tup, sl_lst, sl_str, pow_int, neg_int, ix_tup, ix_lst, ix_ref, ix_scr, Res.bind_ok, Res.bind_bad, Res.bind_exc, List.getElem?_cons_zero, List.getElem?_cons_succ, List.getElem?_nil, List.map_cons, List.map_nil, List.cons_append, List.nil_append, List.append_nil, List.length_cons, List.length_nil, List.set_cons_zero, List.set_cons_succ, Option.map_some, Option.map_none, Option.isSome_some, List.replicate_succ, List.replicate_zero, if_true, if_false, reduceIte, Nat.reduceAdd, Nat.reduceSub, Nat.reduceLeDiff, Nat.reduceEqDiff, Nat.reduceLT, Bool.false_eq_true, and_self, and_true, true_and, List.drop_succ_cons, List.drop_zero, List.take_succ_cons, List.take_zero, Nat.zero_add, Nat.add_zero, Bool.not_true, Bool.not_false, Nat.sub_self, Nat.le_refl, Int.reduceLT, Int.reduceNeg, Nat.reducePow, Int.reducePow, Int.reduceToNat, Int.reduceAdd, Int.reduceSub, Int.reduceLE, Int.cast_ofNat_Int, Int.reduceBEq, List.flatten_cons, List.flatten_nil, Nat.reduceMul, Nat.one_mul, Nat.mul_one, Nat.mul_zero, Nat.zero_le, Int.reduceMul, F_wordE x (hw x hx)]
        obtain ⟨u, hu⟩ := (hv.tup d List.mem_cons_self).ty
        cases d with
        | str s =>
          have m1 : isIn (.str s) d_STARTS h = some (memB ["root", "here", "there"] s) := in_strs s ["root", "here", "there"] h
          have m2 : eqv (.str s) d_THERE h = some (s == "there") := rfl
          simp only [mc_at, mvar_at, mnil_at, mcons_at, mop1_at, mop2_at, mtup_at, mlst_at, mfun_at, mand_at, mor_at, mnot_at, mandT_at, morT_at, mnotT_at, mtru_at, mbl_at, mite_at, mchain_at, mcall_at, mcallN_at, mmeth_at, msl_at, mpart0, mpart1, mdic0_at, iseq_at, irng_at, mcomp_at, fin_none, fin_v, fin_newF, fin_newT, resM_some, resM_none, isLst_ref, lstOf_ref, lstOf_lst, seqOf_tup, seqOf_lst, seqOf_ref, seqOf_scr, truth_bl, ofE_at, ofT_at, sPass_at, sExpr_at, sRet_at, sRetN_at, sAsg_at, sIf_at, sSeq_at, sFor_at, forLoop_nil, forLoop_cons, gname_at, gtup_at, go_nil, go_cons, gstar_at, gsub_at, runB_at, startE_at, wipeE_nil, wipeE_cons, isi_at, len_at, all_lst, tuple_at, list_at, isN_eq, isN_ne, isN_in, isN_notIn, cmp_int, add_int, sub_int, mod_int, fdiv_int, mul_int, mul_lst, add_lst, add_refL, app_at, join_at, isStr_str, add_tup, add_str, int_bl, int_int, sl_tup, sl_lst, sl_str, pow_int, neg_int, ix_tup, ix_lst, ix_ref, ix_scr, Res.bind_ok, Res.bind_bad, Res.bind_exc, List.getElem?_cons_zero, List.getElem?_cons_succ, List.getElem?_nil, List.map_cons, List.map_nil, List.cons_append, List.nil_append, List.append_nil, List.length_cons, List.length_nil, List.set_cons_zero, List.set_cons_succ, Option.map_some, Option.map_none, Option.isSome_some, List.replicate_succ, List.replicate_zero, if_true, if_false, reduceIte, Nat.reduceAdd, Nat.reduceSub, Nat.reduceLeDiff, Nat.reduceEqDiff, Nat.reduceLT, Bool.false_eq_true, and_self, and_true, true_and, List.drop_succ_cons, List.drop_zero, List.take_succ_cons, List.take_zero, Nat.zero_add, Nat.add_zero, Bool.not_true, Bool.not_false, Nat.sub_self, Nat.le_refl, Int.reduceLT, Int.reduceNeg, Nat.reducePow, Int.reducePow, Int.reduceToNat, Int.reduceAdd, Int.reduceSub, Int.reduceLE, Int.cast_ofNat_Int, Int.reduceBEq, List.flatten_cons, List.flatten_nil, Nat.reduceMul, Nat.one_mul, Nat.mul_one, Nat.mul_zero, Nat.zero_le, Int.reduceMul, tyOf, isSub, startB, m1, m2]
          cases k1 : memB ["root", "here", "there"] s with
          | false => simp only [mc_at, mvar_at, mnil_at, mcons_at, mop1_at, mop2_at, mtup_at, mlst_at, mfun_at, mand_at, mor_at, mnot_at, mandT_at, morT_at, mnotT_at, mtru_at, mbl_at, mite_at, mchain_at, mcall_at, mcallN_at, mmeth_at, msl_at, mpart0, mpart1, mdic0_at, iseq_at, irng_at, mcomp_at, fin_none, fin_v, fin_newF, fin_newT, resM_some, resM_none, isLst_ref, lstOf_ref, lstOf_lst, seqOf_tup, seqOf_lst, seqOf_ref, seqOf_scr, truth_bl, ofE_at, ofT_at, sPass_at, sExpr_at, sRet_at, sRetN_at, sAsg_at, sIf_at, sSeq_at, sFor_at, forLoop_nil, forLoop_cons, gname_at, gtup_at, go_nil, go_cons, gstar_at, gsub_at, runB_at, startE_at, wipeE_nil, wipeE_cons, isi_at, len_at, all_lst, tuple_at, list_at, isN_eq, isN_ne, isN_in, isN_notIn, cmp_int, add_int, sub_int, mod_int, fdiv_int, mul_int, mul_lst, add_lst, add_refL, app_at, join_at, isStr_str, add_tup, add_str, int_bl, int_int, sl_tup, sl_lst, sl_str, pow_int, neg_int, ix_tup, ix_lst, ix_ref, ix_scr, Res.bind_ok, Res.bind_bad, Res.bind_exc, List.getElem?_cons_zero, List.getElem?_cons_succ, List.getElem?_nil, List.map_cons, List.map_nil, List.cons_append, List.nil_append, List.append_nil, List.length_cons, List.length_nil, List.set_cons_zero, List.set_cons_succ, Option.map_some, Option.map_none, Option.isSome_some, List.replicate_succ, List.replicate_zero, if_true, if_false, reduceIte, Nat.reduceAdd, Nat.reduceSub, Nat.reduceLeDiff, Nat.reduceEqDiff, Nat.reduceLT, Bool.false_eq_true, and_self, and_true, true_and, List.drop_succ_cons, List.drop_zero, List.take_succ_cons, List.take_zero, Nat.zero_add, Nat.add_zero, Bool.not_true, Bool.not_false, Nat.sub_self, Nat.le_refl, Int.reduceLT, Int.reduceNeg, Nat.reducePow, Int.reducePow, Int.reduceToNat, Int.reduceAdd, Int.reduceSub, Int.reduceLE, Int.cast_ofNat_Int, Int.reduceBEq, List.flatten_cons, List.flatten_nil, Nat.reduceMul, Nat.one_mul, Nat.mul_one, Nat.mul_zero, Nat.zero_le, Int.reduceMul, Bool.false_and]
          | true =>
            cases k2 : (s == ("there" : Str)) with
            | false => simp only [mc_at, mvar_at, mnil_at, mcons_at, mop1_at, mop2_at, mtup_at, mlst_at, mfun_at, mand_at, mor_at, mnot_at, mandT_at, morT_at, mnotT_at, mtru_at, mbl_at, mite_at, mchain_at, mcall_at, mcallN_at, mmeth_at, msl_at, mpart0, mpart1, mdic0_at, iseq_at, irng_at, mcomp_at, fin_none, fin_v, fin_newF, fin_newT, resM_some, resM_none, isLst_ref, lstOf_ref, lstOf_lst, seqOf_tup, seqOf_lst, seqOf_ref, seqOf_scr, truth_bl, ofE_at, ofT_at, sPass_at, sExpr_at, sRet_at, sRetN_at, sAsg_at, sIf_at, sSeq_at, sFor_at, forLoop_nil, forLoop_cons, gname_at, gtup_at, go_nil, go_cons, gstar_at, gsub_at, runB_at, startE_at, wipeE_nil, wipeE_cons, isi_at, len_at, all_lst, tuple_at, list_at, isN_eq, isN_ne, isN_in, isN_notIn, cmp_int, add_int, sub_int, mod_int, fdiv_int, mul_int, mul_lst, add_lst, add_refL, app_at, join_at, isStr_str, add_tup, add_str, int_bl, int_int, sl_tup, sl_lst, sl_str, pow_int, neg_int, ix_tup, ix_lst, ix_ref, ix_scr, Res.bind_ok, Res.bind_bad, Res.bind_exc, List.getElem?_cons_zero, List.getElem?_cons_succ, List.getElem?_nil, List.map_cons, List.map_nil, List.cons_append, List.nil_append, List.append_nil, List.length_cons, List.length_nil, List.set_cons_zero, List.set_cons_succ, Option.map_some, Option.map_none, Option.isSome_some, List.replicate_succ, List.replicate_zero, if_true, if_false, reduceIte, Nat.reduceAdd, Nat.reduceSub, Nat.reduceLeDiff, Nat.reduceEqDiff, Nat.reduceLT, Bool.false_eq_true, and_self, and_true, true_and, List.drop_succ_cons, List.drop_zero, List.take_succ_cons, List.take_zero, Nat.zero_add, Nat.add_zero, Bool.not_true, Bool.not_false, Nat.sub_self, Nat.le_refl, Int.reduceLT, Int.reduceNeg, Nat.reducePow, Int.reducePow, Int.reduceToNat, Int.reduceAdd, Int.reduceSub, Int.reduceLE, Int.cast_ofNat_Int, Int.reduceBEq, List.flatten_cons, List.flatten_nil, Nat.reduceMul, Nat.one_mul, Nat.mul_one, Nat.mul_zero, Nat.zero_le, Int.reduceMul, Bool.true_and, Bool.false_and, itemsOf, loop, bls_map]
            | true =>
              cases b with
              | false => simp only [mc_at, mvar_at, mnil_at, mcons_at, mop1_at, mop2_at, mtup_at, mlst_at, mfun_at, mand_at, mor_at, mnot_at, mandT_at, morT_at, mnotT_at, mtru_at, mbl_at, mite_at, mchain_at, mcall_at, mcallN_at, mmeth_at, msl_at, mpart0, mpart1, mdic0_at, iseq_at, irng_at, mcomp_at, fin_none, fin_v, fin_newF, fin_newT, resM_some, resM_none, isLst_ref, lstOf_ref, lstOf_lst, seqOf_tup, seqOf_lst, seqOf_ref, seqOf_scr, truth_bl, ofE_at, ofT_at, sPass_at, sExpr_at, sRet_at, sRetN_at, sAsg_at, sIf_at, sSeq_at, sFor_at, forLoop_nil, forLoop_cons, gname_at, gtup_at, go_nil, go_cons, gstar_at, gsub_at, runB_at, startE_at, wipeE_nil, wipeE_cons, isi_at, len_at, all_lst, tuple_at, list_at, isN_eq, isN_ne, isN_in, isN_notIn, cmp_int, add_int, sub_int, mod_int, fdiv_int, mul_int, mul_lst, add_lst, add_refL, app_at, join_at, isStr_str, add_tup, add_str, int_bl, int_int, sl_tup, sl_lst, sl_str, pow_int, neg_int, ix_tup, ix_lst, ix_ref, ix_scr, Res.bind_ok, Res.bind_bad, Res.bind_exc, List.getElem?_cons_zero, List.getElem?_cons_succ, List.getElem?_nil, List.map_cons, List.map_nil, List.cons_append, List.nil_append, List.append_nil, List.length_cons, List.length_nil, List.set_cons_zero, List.set_cons_succ, Option.map_some, Option.map_none, Option.isSome_some, List.replicate_succ, List.replicate_zero, if_true, if_false, reduceIte, Nat.reduceAdd, Nat.reduceSub, Nat.reduceLeDiff, Nat.reduceEqDiff, Nat.reduceLT, Bool.false_eq_true, and_self, and_true, true_and, List.drop_succ_cons, List.drop_zero, List.take_succ_cons, List.take_zero, Nat.zero_add, Nat.add_zero, Bool.not_true, Bool.not_false, Nat.sub_self, Nat.le_refl, Int.reduceLT, Int.reduceNeg, Nat.reducePow, Int.reducePow, Int.reduceToNat, Int.reduceAdd, Int.reduceSub, Int.reduceLE, Int.cast_ofNat_Int, Int.reduceBEq, List.flatten_cons, List.flatten_nil, Nat.reduceMul, Nat.one_mul, Nat.mul_one, Nat.mul_zero, Nat.zero_le, Int.reduceMul, Bool.true_and, Bool.false_and]
              | true => simp only [mc_at, mvar_at, mnil_at, mcons_at, mop1_at, mop2_at, mtup_at, mlst_at, mfun_at, mand_at, mor_at, mnot_at, mandT_at, morT_at, mnotT_at, mtru_at, mbl_at, mite_at, mchain_at, mcall_at, mcallN_at, mmeth_at, msl_at, mpart0, mpart1, mdic0_at, iseq_at, irng_at, mcomp_at, fin_none, fin_v, fin_newF, fin_newT, resM_some, resM_none, isLst_ref, lstOf_ref, lstOf_lst, seqOf_tup, seqOf_lst, seqOf_ref, seqOf_scr, truth_bl, ofE_at, ofT_at, sPass_at, sExpr_at, sRet_at, sRetN_at, sAsg_at, sIf_at, sSeq_at, sFor_at, forLoop_nil, forLoop_cons, gname_at, gtup_at, go_nil, go_cons, gstar_at, gsub_at, runB_at, startE_at, wipeE_nil, wipeE_cons, isi_at, len_at, all_lst, tuple_at, list_at, isN_eq, isN_ne, isN_in, isN_notIn, cmp_int, add_int, sub_int, mod_int, fdiv_int, mul_int, mul_lst, add_lst, add_refL, app_at, join_at, isStr_str, add_tup, add_str, int_bl, int_int, sl_tup, sl_lst, sl_str, pow_int, neg_int, ix_tup, ix_lst, ix_ref, ix_scr, Res.bind_ok, Res.bind_bad, Res.bind_exc, List.getElem?_cons_zero, List.getElem?_cons_succ, List.getElem?_nil, List.map_cons, List.map_nil, List.cons_append, List.nil_append, List.append_nil, List.length_cons, List.length_nil, List.set_cons_zero, List.set_cons_succ, Option.map_some, Option.map_none, Option.isSome_some, List.replicate_succ, List.replicate_zero, if_true, if_false, reduceIte, Nat.reduceAdd, Nat.reduceSub, Nat.reduceLeDiff, Nat.reduceEqDiff, Nat.reduceLT, Bool.false_eq_true, and_self, and_true, true_and, List.drop_succ_cons, List.drop_zero, List.take_succ_cons, List.take_zero, Nat.zero_add, Nat.add_zero, Bool.not_true, Bool.not_false, Nat.sub_self, Nat.le_refl, Int.reduceLT, Int.reduceNeg, Nat.reducePow, Int.reducePow, Int.reduceToNat, Int.reduceAdd, Int.reduceSub, Int.reduceLE, Int.cast_ofNat_Int, Int.reduceBEq, List.flatten_cons, List.flatten_nil, Nat.reduceMul, Nat.one_mul, Nat.mul_one, Nat.mul_zero, Nat.zero_le, Int.reduceMul, Bool.true_and, Bool.false_and, Bool.and_false, itemsOf, loop, bls_map]
        | _ =>
          simp only [mc_at, mvar_at, mnil_at, mcons_at, mop1_at, mop2_at, mtup_at, mlst_at, mfun_at, mand_at, mor_at, mnot_at, mandT_at, morT_at, mnotT_at, mtru_at, mbl_at, mite_at, mchain_at, mcall_at, mcallN_at, mmeth_at, msl_at, mpart0, mpart1, mdic0_at, iseq_at, irng_at, mcomp_at, fin_none, fin_v, fin_newF, fin_newT, resM_some, resM_none, isLst_ref, lstOf_ref, lstOf_lst, seqOf_tup, seqOf_lst, seqOf_ref, seqOf_scr, truth_bl, ofE_at, ofT_at, sPass_at, sExpr_at, sRet_at, sRetN_at, sAsg_at, sIf_at, sSeq_at, sFor_at, forLoop_nil, forLoop_cons, gname_at, gtup_at, go_nil, go_cons, gstar_at, gsub_at, runB_at, startE_at, wipeE_nil, wipeE_cons, isi_at, len_at, all_lst, tuple_at, list_at, isN_eq, isN_ne, isN_in, isN_notIn, cmp_int, add_int, sub_int, mod_int, fdiv_int, mul_int, mul_lst, add_lst, add_refL, app_at, join_at, isStr_str, add_tup, add_str, int_bl, int_int, sl_tup, sl_lst, sl_str, pow_int, neg_int, ix_tup, ix_lst, ix_ref, ix_scr, Res.bind_ok, Res.bind_bad, Res.bind_exc, List.getElem?_cons_zero, List.getElem?_cons_succ, List.getElem?_nil, List.map_cons, List.map_nil, List.cons_append, List.nil_append, List.append_nil, List.length_cons, List.length_nil, List.set_cons_zero, List.set_cons_succ, Option.map_some, Option.map_none, Option.isSome_some, List.replicate_succ, List.replicate_zero, if_true, if_false, reduceIte, Nat.reduceAdd, Nat.reduceSub, Nat.reduceLeDiff, Nat.reduceEqDiff, Nat.reduceLT, Bool.false_eq_true, and_self, and_true, true_and, List.drop_succ_cons, List.drop_zero, List.take_succ_cons, List.take_zero, Nat.zero_add, Nat.add_zero, Bool.not_true, Bool.not_false, Nat.sub_self, Nat.le_refl, Int.reduceLT, Int.reduceNeg, Nat.reducePow, Int.reducePow, Int.reduceToNat, Int.reduceAdd, Int.reduceSub, Int.reduceLE, Int.cast_ofNat_Int, Int.reduceBEq, List.flatten_cons, List.flatten_nil, Nat.reduceMul, Nat.one_mul, Nat.mul_one, Nat.mul_zero, Nat.zero_le, Int.reduceMul, hu, startB, Bool.false_and]
          simp only [tyOf] at hu
          first | (have := hu []; cases this; rfl) | (obtain ⟨p, e⟩ := hv.tup _ List.mem_cons_self; simp only [toPy] at e; cases e)
      · simp only [e1, h2, decide_true, decide_false, mc_at, mvar_at, mnil_at, mcons_at, mop1_at, mop2_at, mtup_at, mlst_at, mfun_at, mand_at, mor_at, mnot_at, mandT_at, morT_at, mnotT_at, mtru_at, mbl_at, mite_at, mchain_at, mcall_at, mcallN_at, mmeth_at, msl_at, mpart0, mpart1, mdic0_at, iseq_at, irng_at, mcomp_at, fin_none, fin_v, fin_newF, fin_newT, resM_some, resM_none, isLst_ref, lstOf_ref, lstOf_lst, seqOf_tup, seqOf_lst, seqOf_ref, seqOf_scr, truth_bl, ofE_at, ofT_at, sPass_at, sExpr_at, sRet_at, sRetN_at, sAsg_at, sIf_at, sSeq_at, sFor_at, forLoop_nil, forLoop_cons, gname_at, gtup_at, go_nil, go_cons, gstar_at, gsub_at, runB_at, startE_at, wipeE_nil, wipeE_cons, isi_at, len_at, all_lst, tuple_at, list_at, isN_eq, isN_ne, isN_in, isN_notIn, cmp_int, add_int, sub_int, mod_int, fdiv_int, mul_int, mul_lst, add_lst, add_refL, app_at, join_at, isStr_str, add_tup, add_str, int_bl, int_int, sl_tup, sl_lst, sl_str, pow_int, neg_int, ix_tup, ix_lst, ix_ref, ix_scr, Res.bind_ok, Res.bind_bad, Res.bind_exc, List.getElem?_cons_zero, List.getElem?_cons_succ, List.getElem?_nil, List.map_cons, List.map_nil, List.cons_append, List.nil_append, List.append_nil, List.length_cons, List.length_nil, List.set_cons_zero, List.set_cons_succ, Option.map_some, Option.map_none, Option.isSome_some, List.replicate_succ, List.replicate_zero, if_true, if_false, reduceIte, Nat.reduceAdd, Nat.reduceSub, Nat.reduceLeDiff, Nat.reduceEqDiff, Nat.reduceLT, Bool.false_eq_true, and_self, and_true, true_and, List.drop_succ_cons, List.drop_zero, List.take_succ_cons, List.take_zero, Nat.zero_add, Nat.add_zero, Bool.not_true, Bool.not_false, Nat.sub_self, Nat.le_refl, Int.reduceLT, Int.reduceNeg, Nat.reducePow, Int.reducePow, Int.reduceToNat, Int.reduceAdd, Int.reduceSub, Int.reduceLE, Int.cast_ofNat_Int, Int.reduceBEq, List.flatten_cons, List.flatten_nil, Nat.reduceMul, Nat.one_mul, Nat.mul_one, Nat.mul_zero, Nat.zero_le, Int.reduceMul, Int.reduceAdd, Bool.false_and]
  | _ =>
    simp only [F_is_path, m_is_path, mc_at, mvar_at, mnil_at, mcons_at, mop1_at, mop2_at, mtup_at, mlst_at, mfun_at, mand_at, mor_at, mnot_at, mandT_at, morT_at, mnotT_at, mtru_at, mbl_at, mite_at, mchain_at, mcall_at, mcallN_at, mmeth_at, msl_at, mpart0, mpart1, mdic0_at, iseq_at, irng_at, mcomp_at, fin_none, fin_v, fin_newF, fin_newT, resM_some, resM_none, isLst_ref, lstOf_ref, lstOf_lst, seqOf_tup, seqOf_lst, seqOf_ref, seqOf_scr, truth_bl, ofE_at, ofT_at, sPass_at, sExpr_at, sRet_at, sRetN_at, sAsg_at, sIf_at, sSeq_at, sFor_at, forLoop_nil, forLoop_cons, gname_at, gtup_at, go_nil, go_cons, gstar_at, gsub_at, runB_at, startE_at, wipeE_nil, wipeE_cons, isi_at, len_at, all_lst, tuple_at, list_at, isN_eq, isN_ne, isN_in, isN_notIn, cmp_int, add_int, sub_int, mod_int, fdiv_int, mul_int, mul_lst, add_lst, add_refL, app_at, join_at, isStr_str, add_tup, add_str, int_bl, int_int, sl_tup, sl_lst, sl_str, pow_int, neg_int, ix_tup, ix_lst, ix_ref, ix_scr, Res.bind_ok, Res.bind_bad, Res.bind_exc, List.getElem?_cons_zero, List.getElem?_cons_succ, List.getElem?_nil, List.map_cons, List.map_nil, List.cons_append, List.nil_append, List.append_nil, List.length_cons, List.length_nil, List.set_cons_zero, List.set_cons_succ, Option.map_some, Option.map_none, Option.isSome_some, List.replicate_succ, List.replicate_zero, if_true, if_false, reduceIte, Nat.reduceAdd, Nat.reduceSub, Nat.reduceLeDiff, Nat.reduceEqDiff, Nat.reduceLT, Bool.false_eq_true, and_self, and_true, true_and, List.drop_succ_cons, List.drop_zero, List.take_succ_cons, List.take_zero, Nat.zero_add, Nat.add_zero, Bool.not_true, Bool.not_false, Nat.sub_self, Nat.le_refl, Int.reduceLT, Int.reduceNeg, Nat.reducePow, Int.reducePow, Int.reduceToNat, Int.reduceAdd, Int.reduceSub, Int.reduceLE, Int.cast_ofNat_Int, Int.reduceBEq, List.flatten_cons, List.flatten_nil, Nat.reduceMul, Nat.one_mul, Nat.mul_one, Nat.mul_zero, Nat.zero_le, Int.reduceMul, ht, pathB, truth]
    simp only [tyOf] at ht
    first | (have := ht []; cases this; rfl) | (obtain ⟨p, e⟩ := hv; simp only [toPy] at e; cases e)
theorem in_strsL (z : Str) (qs : List Str) (h : Hd) : isIn (.str z) (.lst (qs.map D.str)) h = some (memB qs z) := by
  show (if flatD (.str z) = true ∧ (qs.map D.str).all flatD = true then _ else _) = _
  rw [if_pos ⟨rfl, flat_strs qs⟩]
  rfl
theorem memB_cons (q : Str) (qs : List Str) (z : Str) : memB (q :: qs) z = ((q == z) || memB qs z) := rfl
theorem start_eq (b : Bool) (s : Str) : startB b (.str s) = memB (if b then ["root", "here", "there"] else ["root", "here"]) s := by
  cases b with
  | true => simp only [startB, Bool.not_true, Bool.and_false, Bool.not_false, Bool.and_true, if_true]
  | false =>
    simp only [startB, Bool.not_false, Bool.and_true, Bool.false_eq_true, if_false, memB_cons]
    cases k : (s == ("there" : Str)) with
    | true =>
      have := eq_of_beq k
      subst this
      decide +kernel
    | false =>
      have k2 : (("there" : Str) == s) = false := by
        cases z : (("there" : Str) == s) with
        | false => rfl
        | true => have := eq_of_beq z; subst this; rw [beq_self_eq_true] at k; cases k
      simp only [k2, Bool.false_or, Bool.not_false, Bool.and_true]
theorem F_wayE (v : D) (hv : Fz v) (qs : List Str) (hq : ∀ q ∈ qs, madeB CAP 4 (.str q) = true) (b : Bool) (h : Hd) : F__law_is_way [v, .tup (qs.map .str), .bl b, .int 0] h = .ok (.bl (pathB qs b v)) h := by
  obtain ⟨t, ht⟩ := hv.ty
  cases v with
  | tup xs =>
    cases xs with
    | nil =>
      simp only [F__law_is_way, m__law_is_way, mc_at, mvar_at, mnil_at, mcons_at, mop1_at, mop2_at, mtup_at, mlst_at, mfun_at, mand_at, mor_at, mnot_at, mandT_at, morT_at, mnotT_at, mtru_at, mbl_at, mite_at, mchain_at, mcall_at, mcallN_at, mmeth_at, msl_at, mpart0, mpart1, mdic0_at, iseq_at, irng_at, mcomp_at, fin_none, fin_v, fin_newF, fin_newT, resM_some, resM_none, isLst_ref, lstOf_ref, lstOf_lst, seqOf_tup, seqOf_lst, seqOf_ref, seqOf_scr, truth_bl, ofE_at, ofT_at, sPass_at, sExpr_at, sRet_at, sRetN_at, sAsg_at, sIf_at, sSeq_at, sFor_at, forLoop_nil, forLoop_cons, gname_at, gtup_at, go_nil, go_cons, gstar_at, gsub_at, runB_at, startE_at, wipeE_nil, wipeE_cons, isi_at, len_at, all_lst, tuple_at, list_at, isN_eq, isN_ne, isN_in, isN_notIn, cmp_int, add_int, sub_int, mod_int, fdiv_int, mul_int, mul_lst, add_lst, add_refL, app_at, join_at, isStr_str, add_tup, add_str, int_bl, int_int, sl_tup, sl_lst, sl_str, pow_int, neg_int, ix_tup, ix_lst, ix_ref, ix_scr, Res.bind_ok, Res.bind_bad, Res.bind_exc, List.getElem?_cons_zero, List.getElem?_cons_succ, List.getElem?_nil, List.map_cons, List.map_nil, List.cons_append, List.nil_append, List.append_nil, List.length_cons, List.length_nil, List.set_cons_zero, List.set_cons_succ, Option.map_some, Option.map_none, Option.isSome_some, List.replicate_succ, List.replicate_zero, if_true, if_false, reduceIte, Nat.reduceAdd, Nat.reduceSub, Nat.reduceLeDiff, Nat.reduceEqDiff, Nat.reduceLT, Bool.false_eq_true, and_self, and_true, true_and, List.drop_succ_cons, List.drop_zero, List.take_succ_cons, List.take_zero, Nat.zero_add, Nat.add_zero, Bool.not_true, Bool.not_false, Nat.sub_self, Nat.le_refl, Int.reduceLT, Int.reduceNeg, Nat.reducePow, Int.reducePow, Int.reduceToNat, Int.reduceAdd, Int.reduceSub, Int.reduceLE, Int.cast_ofNat_Int, Int.reduceBEq, List.flatten_cons, List.flatten_nil, Nat.reduceMul, Nat.one_mul, Nat.mul_one, Nat.mul_zero, Nat.zero_le, Int.reduceMul, tyOf, isSub, lenOf, truth, pathB, Int.reduceAdd]
      rfl
    | cons d ws =>
      simp only [F__law_is_way, m__law_is_way, mc_at, mvar_at, mnil_at, mcons_at, mop1_at, mop2_at, mtup_at, mlst_at, mfun_at, mand_at, mor_at, mnot_at, mandT_at, morT_at, mnotT_at, mtru_at, mbl_at, mite_at, mchain_at, mcall_at, mcallN_at, mmeth_at, msl_at, mpart0, mpart1, mdic0_at, iseq_at, irng_at, mcomp_at, fin_none, fin_v, fin_newF, fin_newT, resM_some, resM_none, isLst_ref, lstOf_ref, lstOf_lst, seqOf_tup, seqOf_lst, seqOf_ref, seqOf_scr, truth_bl, ofE_at, ofT_at, sPass_at, sExpr_at, sRet_at, sRetN_at, sAsg_at, sIf_at, sSeq_at, sFor_at, forLoop_nil, forLoop_cons, gname_at, gtup_at, go_nil, go_cons, gstar_at, gsub_at, runB_at, startE_at, wipeE_nil, wipeE_cons, isi_at, len_at, all_lst, tuple_at, list_at, isN_eq, isN_ne, isN_in, isN_notIn, cmp_int, add_int, sub_int, mod_int, fdiv_int, mul_int, mul_lst, add_lst, add_refL, app_at, join_at, isStr_str, add_tup, add_str, int_bl, int_int, sl_tup, sl_lst, sl_str, pow_int, neg_int, ix_tup, ix_lst, ix_ref, ix_scr, Res.bind_ok, Res.bind_bad, Res.bind_exc, List.getElem?_cons_zero, List.getElem?_cons_succ, List.getElem?_nil, List.map_cons, List.map_nil, List.cons_append, List.nil_append, List.append_nil, List.length_cons, List.length_nil, List.set_cons_zero, List.set_cons_succ, Option.map_some, Option.map_none, Option.isSome_some, List.replicate_succ, List.replicate_zero, if_true, if_false, reduceIte, Nat.reduceAdd, Nat.reduceSub, Nat.reduceLeDiff, Nat.reduceEqDiff, Nat.reduceLT, Bool.false_eq_true, and_self, and_true, true_and, List.drop_succ_cons, List.drop_zero, List.take_succ_cons, List.take_zero, Nat.zero_add, Nat.add_zero, Bool.not_true, Bool.not_false, Nat.sub_self, Nat.le_refl, Int.reduceLT, Int.reduceNeg, Nat.reducePow, Int.reducePow, Int.reduceToNat, Int.reduceAdd, Int.reduceSub, Int.reduceLE, Int.cast_ofNat_Int, Int.reduceBEq, List.flatten_cons, List.flatten_nil, Nat.reduceMul, Nat.one_mul, Nat.mul_one, Nat.mul_zero, Nat.zero_le, Int.reduceMul, tyOf, isSub, lenOf, truth, pathB, Int.natCast_add, Int.cast_ofNat_Int]
      have e1 : ¬ ((ws.length : Int) + 1 < 1) := by omega
      by_cases h2 : (ws.length : Int) + 1 ≤ 7
      · have e2 : ¬ (7 < (ws.length : Int) + 1) := by omega
        have hw : ∀ x ∈ ws, Fz x := fun x hx => hv.tup x (List.mem_cons_of_mem _ hx)
        have loop : compLoop (gname 4) yes (mcall F__law_is_fit 2 [] (mcons (mvar 4) (mcons (mvar 1) mnil))) [some (.tup (d :: ws)), some (.tup (qs.map .str)), some (.bl b), some (.int 0), none] ws [] h = some ([] ++ ws.map fun x => .bl (wordB qs x), h) :=
          comp_map fun x hx => by simp only [mc_at, mvar_at, mnil_at, mcons_at, mop1_at, mop2_at, mtup_at, mlst_at, mfun_at, mand_at, mor_at, mnot_at, mandT_at, morT_at, mnotT_at, mtru_at, mbl_at, mite_at, mchain_at, mcall_at, mcallN_at, mmeth_at, msl_at, mpart0, mpart1, mdic0_at, iseq_at, irng_at, mcomp_at, fin_none, fin_v, fin_newF, fin_newT, resM_some, resM_none, isLst_ref, lstOf_ref, lstOf_lst, seqOf_tup, seqOf_lst, seqOf_ref, seqOf_scr, truth_bl, ofE_at, ofT_at, sPass_at, sExpr_at, sRet_at, sRetN_at, sAsg_at, sIf_at, sSeq_at, sFor_at, forLoop_nil, forLoop_cons, gname_at, gtup_at, go_nil, go_cons, gstar_at, gsub_at, runB_at, startE_at, wipeE_nil, wipeE_cons, isi_at, len_at, all_lst, tuple_at, list_at, isN_eq, isN_ne, isN_in, isN_notIn, cmp_int, add_int, sub_int, mod_int, fdiv_int, mul_int, mul_lst, add_lst, add_refL, app_at, join_at, isStr_str, add_tup, add_str, int_bl, int_int, sl_tup, sl_lst, sl_str, pow_int, neg_int, ix_tup, ix_lst, ix_ref, ix_scr, Res.bind_ok, Res.bind_bad, Res.bind_exc, List.getElem?_cons_zero, List.getElem?_cons_succ, List.getElem?_nil, List.map_cons, List.map_nil, List.cons_append, List.nil_append, List.append_nil, List.length_cons, List.length_nil, List.set_cons_zero, List.set_cons_succ, Option.map_some, Option.map_none, Option.isSome_some, List.replicate_succ, List.replicate_zero, if_true, if_false, reduceIte, Nat.reduceAdd, Nat.reduceSub, Nat.reduceLeDiff, Nat.reduceEqDiff, Nat.reduceLT, Bool.false_eq_true, and_self, and_true, true_and, List.drop_succ_cons, List.drop_zero, List.take_succ_cons, List.take_zero, Nat.zero_add, Nat.add_zero, Bool.not_true, Bool.not_false, Nat.sub_self, Nat.le_refl, Int.reduceLT, Int.reduceNeg, Nat.reducePow, Int.reducePow, Int.reduceToNat, Int.reduceAdd, Int.reduceSub, Int.reduceLE, Int.cast_ofNat_Int, Int.reduceBEq, List.flatten_cons, List.flatten_nil, Nat.reduceMul, Nat.one_mul, Nat.mul_one, Nat.mul_zero, Nat.zero_le, Int.reduceMul, F_fitE x (hw x hx) qs hq]
        have cut : cutD (d :: ws) (some 1) none = ws := by
          unfold cutD
          simp [HT.sIx]
        have z1 : 1 ≤ sizeLine := len_le (by decide)
        have z2 : 2 ≤ sizeLine := len_le (by decide)
        have z3 : 3 ≤ sizeLine := len_le (by decide)
        have i1 := fun s : Str => in_strsL s ["root", "here", "there"] h
        have i2 := fun s : Str => in_strsL s ["root", "here"] h
        simp only [List.map_cons, List.map_nil] at i1 i2
        obtain ⟨u, hu⟩ := (hv.tup d List.mem_cons_self).ty
        simp only [e1, e2, h2, decide_true, decide_false, mc_at, mvar_at, mnil_at, mcons_at, mop1_at, mop2_at, mtup_at, mlst_at, mfun_at, mand_at, mor_at, mnot_at, mandT_at, morT_at, mnotT_at, mtru_at, mbl_at, mite_at, mchain_at, mcall_at, mcallN_at, mmeth_at, msl_at, mpart0, mpart1, mdic0_at, iseq_at, irng_at, mcomp_at, fin_none, fin_v, fin_newF, fin_newT, resM_some, resM_none, isLst_ref, lstOf_ref, lstOf_lst, seqOf_tup, seqOf_lst, seqOf_ref, seqOf_scr, truth_bl, ofE_at, ofT_at, sPass_at, sExpr_at, sRet_at, sRetN_at, sAsg_at, sIf_at, sSeq_at, sFor_at, forLoop_nil, forLoop_cons, gname_at, gtup_at, go_nil, go_cons, gstar_at, gsub_at, runB_at, startE_at, wipeE_nil, wipeE_cons, isi_at, len_at, all_lst, tuple_at, list_at, isN_eq, isN_ne, isN_in, isN_notIn, cmp_int, add_int, sub_int, mod_int, fdiv_int, mul_int, mul_lst, add_lst, add_refL, app_at, join_at, isStr_str, add_tup, add_str, int_bl, int_int, sl_tup, sl_lst, sl_str, pow_int, neg_int, ix_tup, ix_lst, ix_ref, ix_scr, Res.bind_ok, Res.bind_bad, Res.bind_exc, List.getElem?_cons_zero, List.getElem?_cons_succ, List.getElem?_nil, List.map_cons, List.map_nil, List.cons_append, List.nil_append, List.append_nil, List.length_cons, List.length_nil, List.set_cons_zero, List.set_cons_succ, Option.map_some, Option.map_none, Option.isSome_some, List.replicate_succ, List.replicate_zero, if_true, if_false, reduceIte, Nat.reduceAdd, Nat.reduceSub, Nat.reduceLeDiff, Nat.reduceEqDiff, Nat.reduceLT, Bool.false_eq_true, and_self, and_true, true_and, List.drop_succ_cons, List.drop_zero, List.take_succ_cons, List.take_zero, Nat.zero_add, Nat.add_zero, Bool.not_true, Bool.not_false, Nat.sub_self, Nat.le_refl, Int.reduceLT, Int.reduceNeg, Nat.reducePow, Int.reducePow, Int.reduceToNat, Int.reduceAdd, Int.reduceSub, Int.reduceLE, Int.cast_ofNat_Int, Int.reduceBEq, List.flatten_cons, List.flatten_nil, Nat.reduceMul, Nat.one_mul, Nat.mul_one, Nat.mul_zero, Nat.zero_le, Int.reduceMul, Int.reduceAdd, Bool.true_and, at0]
        cases d with
        | str s =>
          rw [start_eq]
          cases b with
          | true =>
            simp only [mc_at, mvar_at, mnil_at, mcons_at, mop1_at, mop2_at, mtup_at, mlst_at, mfun_at, mand_at, mor_at, mnot_at, mandT_at, morT_at, mnotT_at, mtru_at, mbl_at, mite_at, mchain_at, mcall_at, mcallN_at, mmeth_at, msl_at, mpart0, mpart1, mdic0_at, iseq_at, irng_at, mcomp_at, fin_none, fin_v, fin_newF, fin_newT, resM_some, resM_none, isLst_ref, lstOf_ref, lstOf_lst, seqOf_tup, seqOf_lst, seqOf_ref, seqOf_scr, truth_bl, ofE_at, ofT_at, sPass_at, sExpr_at, sRet_at, sRetN_at, sAsg_at, sIf_at, sSeq_at, sFor_at, forLoop_nil, forLoop_cons, gname_at, gtup_at, go_nil, go_cons, gstar_at, gsub_at, runB_at, startE_at, wipeE_nil, wipeE_cons, isi_at, len_at, all_lst, tuple_at, list_at, isN_eq, isN_ne, isN_in, isN_notIn, cmp_int, add_int, sub_int, mod_int, fdiv_int, mul_int, mul_lst, add_lst, add_refL, app_at, join_at, isStr_str, add_tup, add_str, int_bl, int_int, sl_tup, sl_lst, sl_str, pow_int, neg_int, ix_tup, ix_lst, ix_ref, ix_scr, Res.bind_ok, Res.bind_bad, Res.bind_exc, List.getElem?_cons_zero, List.getElem?_cons_succ, List.getElem?_nil, List.map_cons, List.map_nil, List.cons_append, List.nil_append, List.append_nil, List.length_cons, List.length_nil, List.set_cons_zero, List.set_cons_succ, Option.map_some, Option.map_none, Option.isSome_some, List.replicate_succ, List.replicate_zero, if_true, if_false, reduceIte, Nat.reduceAdd, Nat.reduceSub, Nat.reduceLeDiff, Nat.reduceEqDiff, Nat.reduceLT, Bool.false_eq_true, and_self, and_true, true_and, List.drop_succ_cons, List.drop_zero, List.take_succ_cons, List.take_zero, Nat.zero_add, Nat.add_zero, Bool.not_true, Bool.not_false, Nat.sub_self, Nat.le_refl, Int.reduceLT, Int.reduceNeg, Nat.reducePow, Int.reducePow, Int.reduceToNat, Int.reduceAdd, Int.reduceSub, Int.reduceLE, Int.cast_ofNat_Int, Int.reduceBEq, List.flatten_cons, List.flatten_nil, Nat.reduceMul, Nat.one_mul, Nat.mul_one, Nat.mul_zero, Nat.zero_le, Int.reduceMul, tyOf, isSub, at0, z1, z2, z3, i1]
            cases k1 : memB ["root", "here", "there"] s with
            | false => simp only [mc_at, mvar_at, mnil_at, mcons_at, mop1_at, mop2_at, mtup_at, mlst_at, mfun_at, mand_at, mor_at, mnot_at, mandT_at, morT_at, mnotT_at, mtru_at, mbl_at, mite_at, mchain_at, mcall_at, mcallN_at, mmeth_at, msl_at, mpart0, mpart1, mdic0_at, iseq_at, irng_at, mcomp_at, fin_none, fin_v, fin_newF, fin_newT, resM_some, resM_none, isLst_ref, lstOf_ref, lstOf_lst, seqOf_tup, seqOf_lst, seqOf_ref, seqOf_scr, truth_bl, ofE_at, ofT_at, sPass_at, sExpr_at, sRet_at, sRetN_at, sAsg_at, sIf_at, sSeq_at, sFor_at, forLoop_nil, forLoop_cons, gname_at, gtup_at, go_nil, go_cons, gstar_at, gsub_at, runB_at, startE_at, wipeE_nil, wipeE_cons, isi_at, len_at, all_lst, tuple_at, list_at, isN_eq, isN_ne, isN_in, isN_notIn, cmp_int, add_int, sub_int, mod_int, fdiv_int, mul_int, mul_lst, add_lst, add_refL, app_at, join_at, isStr_str, add_tup, add_str, int_bl, int_int, sl_tup, sl_lst, sl_str, pow_int, neg_int, ix_tup, ix_lst, ix_ref, ix_scr, Res.bind_ok, Res.bind_bad, Res.bind_exc, List.getElem?_cons_zero, List.getElem?_cons_succ, List.getElem?_nil, List.map_cons, List.map_nil, List.cons_append, List.nil_append, List.append_nil, List.length_cons, List.length_nil, List.set_cons_zero, List.set_cons_succ, Option.map_some, Option.map_none, Option.isSome_some, List.replicate_succ, List.replicate_zero, if_true, if_false, reduceIte, Nat.reduceAdd, Nat.reduceSub, Nat.reduceLeDiff, Nat.reduceEqDiff, Nat.reduceLT, Bool.false_eq_true, and_self, and_true, true_and, List.drop_succ_cons, List.drop_zero, List.take_succ_cons, List.take_zero, Nat.zero_add, Nat.add_zero, Bool.not_true, Bool.not_false, Nat.sub_self, Nat.le_refl, Int.reduceLT, Int.reduceNeg, Nat.reducePow, Int.reducePow, Int.reduceToNat, Int.reduceAdd, Int.reduceSub, Int.reduceLE, Int.cast_ofNat_Int, Int.reduceBEq, List.flatten_cons, List.flatten_nil, Nat.reduceMul, Nat.one_mul, Nat.mul_one, Nat.mul_zero, Nat.zero_le, Int.reduceMul, Bool.false_and]
            | true => simp only [mc_at, mvar_at, mnil_at, mcons_at, mop1_at, mop2_at, mtup_at, mlst_at, mfun_at, mand_at, mor_at, mnot_at, mandT_at, morT_at, mnotT_at, mtru_at, mbl_at, mite_at, mchain_at, mcall_at, mcallN_at, mmeth_at, msl_at, mpart0, mpart1, mdic0_at, iseq_at, irng_at, mcomp_at, fin_none, fin_v, fin_newF, fin_newT, resM_some, resM_none, isLst_ref, lstOf_ref, lstOf_lst, seqOf_tup, seqOf_lst, seqOf_ref, seqOf_scr, truth_bl, ofE_at, ofT_at, sPass_at, sExpr_at, sRet_at, sRetN_at, sAsg_at, sIf_at, sSeq_at, sFor_at, forLoop_nil, forLoop_cons, gname_at, gtup_at, go_nil, go_cons, gstar_at, gsub_at, runB_at, startE_at, wipeE_nil, wipeE_cons, isi_at, len_at, all_lst, tuple_at, list_at, isN_eq, isN_ne, isN_in, isN_notIn, cmp_int, add_int, sub_int, mod_int, fdiv_int, mul_int, mul_lst, add_lst, add_refL, app_at, join_at, isStr_str, add_tup, add_str, int_bl, int_int, sl_tup, sl_lst, sl_str, pow_int, neg_int, ix_tup, ix_lst, ix_ref, ix_scr, Res.bind_ok, Res.bind_bad, Res.bind_exc, List.getElem?_cons_zero, List.getElem?_cons_succ, List.getElem?_nil, List.map_cons, List.map_nil, List.cons_append, List.nil_append, List.append_nil, List.length_cons, List.length_nil, List.set_cons_zero, List.set_cons_succ, Option.map_some, Option.map_none, Option.isSome_some, List.replicate_succ, List.replicate_zero, if_true, if_false, reduceIte, Nat.reduceAdd, Nat.reduceSub, Nat.reduceLeDiff, Nat.reduceEqDiff, Nat.reduceLT, Bool.false_eq_true, and_self, and_true, true_and, List.drop_succ_cons, List.drop_zero, List.take_succ_cons, List.take_zero, Nat.zero_add, Nat.add_zero, Bool.not_true, Bool.not_false, Nat.sub_self, Nat.le_refl, Int.reduceLT, Int.reduceNeg, Nat.reducePow, Int.reducePow, Int.reduceToNat, Int.reduceAdd, Int.reduceSub, Int.reduceLE, Int.cast_ofNat_Int, Int.reduceBEq, List.flatten_cons, List.flatten_nil, Nat.reduceMul, Nat.one_mul, Nat.mul_one, Nat.mul_zero, Nat.zero_le, Int.reduceMul, Bool.true_and, at0, cut, itemsOf, loop, bls_map]
          | false =>
            simp only [mc_at, mvar_at, mnil_at, mcons_at, mop1_at, mop2_at, mtup_at, mlst_at, mfun_at, mand_at, mor_at, mnot_at, mandT_at, morT_at, mnotT_at, mtru_at, mbl_at, mite_at, mchain_at, mcall_at, mcallN_at, mmeth_at, msl_at, mpart0, mpart1, mdic0_at, iseq_at, irng_at, mcomp_at, fin_none, fin_v, fin_newF, fin_newT, resM_some, resM_none, isLst_ref, lstOf_ref, lstOf_lst, seqOf_tup, seqOf_lst, seqOf_ref, seqOf_scr, truth_bl, ofE_at, ofT_at, sPass_at, sExpr_at, sRet_at, sRetN_at, sAsg_at, sIf_at, sSeq_at, sFor_at, forLoop_nil, forLoop_cons, gname_at, gtup_at, go_nil, go_cons, gstar_at, gsub_at, runB_at, startE_at, wipeE_nil, wipeE_cons, isi_at, len_at, all_lst, tuple_at, list_at, isN_eq, isN_ne, isN_in, isN_notIn, cmp_int, add_int, sub_int, mod_int, fdiv_int, mul_int, mul_lst, add_lst, add_refL, app_at, join_at, isStr_str, add_tup, add_str, int_bl, int_int, sl_tup, sl_lst, sl_str, pow_int, neg_int, ix_tup, ix_lst, ix_ref, ix_scr, Res.bind_ok, Res.bind_bad, Res.bind_exc, List.getElem?_cons_zero, List.getElem?_cons_succ, List.getElem?_nil, List.map_cons, List.map_nil, List.cons_append, List.nil_append, List.append_nil, List.length_cons, List.length_nil, List.set_cons_zero, List.set_cons_succ, Option.map_some, Option.map_none, Option.isSome_some, List.replicate_succ, List.replicate_zero, if_true, if_false, reduceIte, Nat.reduceAdd, Nat.reduceSub, Nat.reduceLeDiff, Nat.reduceEqDiff, Nat.reduceLT, Bool.false_eq_true, and_self, and_true, true_and, List.drop_succ_cons, List.drop_zero, List.take_succ_cons, List.take_zero, Nat.zero_add, Nat.add_zero, Bool.not_true, Bool.not_false, Nat.sub_self, Nat.le_refl, Int.reduceLT, Int.reduceNeg, Nat.reducePow, Int.reducePow, Int.reduceToNat, Int.reduceAdd, Int.reduceSub, Int.reduceLE, Int.cast_ofNat_Int, Int.reduceBEq, List.flatten_cons, List.flatten_nil, Nat.reduceMul, Nat.one_mul, Nat.mul_one, Nat.mul_zero, Nat.zero_le, Int.reduceMul, tyOf, isSub, at0, z1, z2, z3, i2]
            cases k1 : memB ["root", "here"] s with
            | false => simp only [mc_at, mvar_at, mnil_at, mcons_at, mop1_at, mop2_at, mtup_at, mlst_at, mfun_at, mand_at, mor_at, mnot_at, mandT_at, morT_at, mnotT_at, mtru_at, mbl_at, mite_at, mchain_at, mcall_at, mcallN_at, mmeth_at, msl_at, mpart0, mpart1, mdic0_at, iseq_at, irng_at, mcomp_at, fin_none, fin_v, fin_newF, fin_newT, resM_some, resM_none, isLst_ref, lstOf_ref, lstOf_lst, seqOf_tup, seqOf_lst, seqOf_ref, seqOf_scr, truth_bl, ofE_at, ofT_at, sPass_at, sExpr_at, sRet_at, sRetN_at, sAsg_at, sIf_at, sSeq_at, sFor_at, forLoop_nil, forLoop_cons, gname_at, gtup_at, go_nil, go_cons, gstar_at, gsub_at, runB_at, startE_at, wipeE_nil, wipeE_cons, isi_at, len_at, all_lst, tuple_at, list_at, isN_eq, isN_ne, isN_in, isN_notIn, cmp_int, add_int, sub_int, mod_int, fdiv_int, mul_int, mul_lst, add_lst, add_refL, app_at, join_at, isStr_str, add_tup, add_str, int_bl, int_int, sl_tup, sl_lst, sl_str, pow_int, neg_int, ix_tup, ix_lst, ix_ref, ix_scr, Res.bind_ok, Res.bind_bad, Res.bind_exc, List.getElem?_cons_zero, List.getElem?_cons_succ, List.getElem?_nil, List.map_cons, List.map_nil, List.cons_append, List.nil_append, List.append_nil, List.length_cons, List.length_nil, List.set_cons_zero, List.set_cons_succ, Option.map_some, Option.map_none, Option.isSome_some, List.replicate_succ, List.replicate_zero, if_true, if_false, reduceIte, Nat.reduceAdd, Nat.reduceSub, Nat.reduceLeDiff, Nat.reduceEqDiff, Nat.reduceLT, Bool.false_eq_true, and_self, and_true, true_and, List.drop_succ_cons, List.drop_zero, List.take_succ_cons, List.take_zero, Nat.zero_add, Nat.add_zero, Bool.not_true, Bool.not_false, Nat.sub_self, Nat.le_refl, Int.reduceLT, Int.reduceNeg, Nat.reducePow, Int.reducePow, Int.reduceToNat, Int.reduceAdd, Int.reduceSub, Int.reduceLE, Int.cast_ofNat_Int, Int.reduceBEq, List.flatten_cons, List.flatten_nil, Nat.reduceMul, Nat.one_mul, Nat.mul_one, Nat.mul_zero, Nat.zero_le, Int.reduceMul, Bool.false_and]
            | true => simp only [mc_at, mvar_at, mnil_at, mcons_at, mop1_at, mop2_at, mtup_at, mlst_at, mfun_at, mand_at, mor_at, mnot_at, mandT_at, morT_at, mnotT_at, mtru_at, mbl_at, mite_at, mchain_at, mcall_at, mcallN_at, mmeth_at, msl_at, mpart0, mpart1, mdic0_at, iseq_at, irng_at, mcomp_at, fin_none, fin_v, fin_newF, fin_newT, resM_some, resM_none, isLst_ref, lstOf_ref, lstOf_lst, seqOf_tup, seqOf_lst, seqOf_ref, seqOf_scr, truth_bl, ofE_at, ofT_at, sPass_at, sExpr_at, sRet_at, sRetN_at, sAsg_at, sIf_at, sSeq_at, sFor_at, forLoop_nil, forLoop_cons, gname_at, gtup_at, go_nil, go_cons, gstar_at, gsub_at, runB_at, startE_at, wipeE_nil, wipeE_cons, isi_at, len_at, all_lst, tuple_at, list_at, isN_eq, isN_ne, isN_in, isN_notIn, cmp_int, add_int, sub_int, mod_int, fdiv_int, mul_int, mul_lst, add_lst, add_refL, app_at, join_at, isStr_str, add_tup, add_str, int_bl, int_int, sl_tup, sl_lst, sl_str, pow_int, neg_int, ix_tup, ix_lst, ix_ref, ix_scr, Res.bind_ok, Res.bind_bad, Res.bind_exc, List.getElem?_cons_zero, List.getElem?_cons_succ, List.getElem?_nil, List.map_cons, List.map_nil, List.cons_append, List.nil_append, List.append_nil, List.length_cons, List.length_nil, List.set_cons_zero, List.set_cons_succ, Option.map_some, Option.map_none, Option.isSome_some, List.replicate_succ, List.replicate_zero, if_true, if_false, reduceIte, Nat.reduceAdd, Nat.reduceSub, Nat.reduceLeDiff, Nat.reduceEqDiff, Nat.reduceLT, Bool.false_eq_true, and_self, and_true, true_and, List.drop_succ_cons, List.drop_zero, List.take_succ_cons, List.take_zero, Nat.zero_add, Nat.add_zero, Bool.not_true, Bool.not_false, Nat.sub_self, Nat.le_refl, Int.reduceLT, Int.reduceNeg, Nat.reducePow, Int.reducePow, Int.reduceToNat, Int.reduceAdd, Int.reduceSub, Int.reduceLE, Int.cast_ofNat_Int, Int.reduceBEq, List.flatten_cons, List.flatten_nil, Nat.reduceMul, Nat.one_mul, Nat.mul_one, Nat.mul_zero, Nat.zero_le, Int.reduceMul, Bool.true_and, at0, cut, itemsOf, loop, bls_map]
        | _ =>
          simp only [mc_at, mvar_at, mnil_at, mcons_at, mop1_at, mop2_at, mtup_at, mlst_at, mfun_at, mand_at, mor_at, mnot_at, mandT_at, morT_at, mnotT_at, mtru_at, mbl_at, mite_at, mchain_at, mcall_at, mcallN_at, mmeth_at, msl_at, mpart0, mpart1, mdic0_at, iseq_at, irng_at, mcomp_at, fin_none, fin_v, fin_newF, fin_newT, resM_some, resM_none, isLst_ref, lstOf_ref, lstOf_lst, seqOf_tup, seqOf_lst, seqOf_ref, seqOf_scr, truth_bl, ofE_at, ofT_at, sPass_at, sExpr_at, sRet_at, sRetN_at, sAsg_at, sIf_at, sSeq_at, sFor_at, forLoop_nil, forLoop_cons, gname_at, gtup_at, go_nil, go_cons, gstar_at, gsub_at, runB_at, startE_at, wipeE_nil, wipeE_cons, isi_at, len_at, all_lst, tuple_at, list_at, isN_eq, isN_ne, isN_in, isN_notIn, cmp_int, add_int, sub_int, mod_int, fdiv_int, mul_int, mul_lst, add_lst, add_refL, app_at, join_at, isStr_str, add_tup, add_str, int_bl, int_int, sl_tup, sl_lst, sl_str, pow_int, neg_int, ix_tup, ix_lst, ix_ref, ix_scr, Res.bind_ok, Res.bind_bad, Res.bind_exc, List.getElem?_cons_zero, List.getElem?_cons_succ, List.getElem?_nil, List.map_cons, List.map_nil, List.cons_append, List.nil_append, List.append_nil, List.length_cons, List.length_nil, List.set_cons_zero, List.set_cons_succ, Option.map_some, Option.map_none, Option.isSome_some, List.replicate_succ, List.replicate_zero, if_true, if_false, reduceIte, Nat.reduceAdd, Nat.reduceSub, Nat.reduceLeDiff, Nat.reduceEqDiff, Nat.reduceLT, Bool.false_eq_true, and_self, and_true, true_and, List.drop_succ_cons, List.drop_zero, List.take_succ_cons, List.take_zero, Nat.zero_add, Nat.add_zero, Bool.not_true, Bool.not_false, Nat.sub_self, Nat.le_refl, Int.reduceLT, Int.reduceNeg, Nat.reducePow, Int.reducePow, Int.reduceToNat, Int.reduceAdd, Int.reduceSub, Int.reduceLE, Int.cast_ofNat_Int, Int.reduceBEq, List.flatten_cons, List.flatten_nil, Nat.reduceMul, Nat.one_mul, Nat.mul_one, Nat.mul_zero, Nat.zero_le, Int.reduceMul, hu, startB, Bool.false_and, at0]
          simp only [tyOf] at hu
          first | (have := hu []; cases this; rfl) | (obtain ⟨p, e⟩ := hv.tup _ List.mem_cons_self; simp only [toPy] at e; cases e)
      · have e2 : 7 < (ws.length : Int) + 1 := by omega
        simp only [e1, e2, h2, decide_true, decide_false, mc_at, mvar_at, mnil_at, mcons_at, mop1_at, mop2_at, mtup_at, mlst_at, mfun_at, mand_at, mor_at, mnot_at, mandT_at, morT_at, mnotT_at, mtru_at, mbl_at, mite_at, mchain_at, mcall_at, mcallN_at, mmeth_at, msl_at, mpart0, mpart1, mdic0_at, iseq_at, irng_at, mcomp_at, fin_none, fin_v, fin_newF, fin_newT, resM_some, resM_none, isLst_ref, lstOf_ref, lstOf_lst, seqOf_tup, seqOf_lst, seqOf_ref, seqOf_scr, truth_bl, ofE_at, ofT_at, sPass_at, sExpr_at, sRet_at, sRetN_at, sAsg_at, sIf_at, sSeq_at, sFor_at, forLoop_nil, forLoop_cons, gname_at, gtup_at, go_nil, go_cons, gstar_at, gsub_at, runB_at, startE_at, wipeE_nil, wipeE_cons, isi_at, len_at, all_lst, tuple_at, list_at, isN_eq, isN_ne, isN_in, isN_notIn, cmp_int, add_int, sub_int, mod_int, fdiv_int, mul_int, mul_lst, add_lst, add_refL, app_at, join_at, isStr_str, add_tup, add_str, int_bl, int_int, sl_tup, sl_lst, sl_str, pow_int, neg_int, ix_tup, ix_lst, ix_ref, ix_scr, Res.bind_ok, Res.bind_bad, Res.bind_exc, List.getElem?_cons_zero, List.getElem?_cons_succ, List.getElem?_nil, List.map_cons, List.map_nil, List.cons_append, List.nil_append, List.append_nil, List.length_cons, List.length_nil, List.set_cons_zero, List.set_cons_succ, Option.map_some, Option.map_none, Option.isSome_some, List.replicate_succ, List.replicate_zero, if_true, if_false, reduceIte, Nat.reduceAdd, Nat.reduceSub, Nat.reduceLeDiff, Nat.reduceEqDiff, Nat.reduceLT, Bool.false_eq_true, and_self, and_true, true_and, List.drop_succ_cons, List.drop_zero, List.take_succ_cons, List.take_zero, Nat.zero_add, Nat.add_zero, Bool.not_true, Bool.not_false, Nat.sub_self, Nat.le_refl, Int.reduceLT, Int.reduceNeg, Nat.reducePow, Int.reducePow, Int.reduceToNat, Int.reduceAdd, Int.reduceSub, Int.reduceLE, Int.cast_ofNat_Int, Int.reduceBEq, List.flatten_cons, List.flatten_nil, Nat.reduceMul, Nat.one_mul, Nat.mul_one, Nat.mul_zero, Nat.zero_le, Int.reduceMul, Int.reduceAdd, Bool.false_and]
  | _ =>
    simp only [F__law_is_way, m__law_is_way, mc_at, mvar_at, mnil_at, mcons_at, mop1_at, mop2_at, mtup_at, mlst_at, mfun_at, mand_at, mor_at, mnot_at, mandT_at, morT_at, mnotT_at, mtru_at, mbl_at, mite_at, mchain_at, mcall_at, mcallN_at, mmeth_at, msl_at, mpart0, mpart1, mdic0_at, iseq_at, irng_at, mcomp_at, fin_none, fin_v, fin_newF, fin_newT, resM_some, resM_none, isLst_ref, lstOf_ref, lstOf_lst, seqOf_tup, seqOf_lst, seqOf_ref, seqOf_scr, truth_bl, ofE_at, ofT_at, sPass_at, sExpr_at, sRet_at, sRetN_at, sAsg_at, sIf_at, sSeq_at, sFor_at, forLoop_nil, forLoop_cons, gname_at, gtup_at, go_nil, go_cons, gstar_at, gsub_at, runB_at, startE_at, wipeE_nil, wipeE_cons, isi_at, len_at, all_lst, tuple_at, list_at, isN_eq, isN_ne, isN_in, isN_notIn, cmp_int, add_int, sub_int, mod_int, fdiv_int, mul_int, mul_lst, add_lst, add_refL, app_at, join_at, isStr_str, add_tup, add_str, int_bl, int_int, sl_tup, sl_lst, sl_str, pow_int, neg_int, ix_tup, ix_lst, ix_ref, ix_scr, Res.bind_ok, Res.bind_bad, Res.bind_exc, List.getElem?_cons_zero, List.getElem?_cons_succ, List.getElem?_nil, List.map_cons, List.map_nil, List.cons_append, List.nil_append, List.append_nil, List.length_cons, List.length_nil, List.set_cons_zero, List.set_cons_succ, Option.map_some, Option.map_none, Option.isSome_some, List.replicate_succ, List.replicate_zero, if_true, if_false, reduceIte, Nat.reduceAdd, Nat.reduceSub, Nat.reduceLeDiff, Nat.reduceEqDiff, Nat.reduceLT, Bool.false_eq_true, and_self, and_true, true_and, List.drop_succ_cons, List.drop_zero, List.take_succ_cons, List.take_zero, Nat.zero_add, Nat.add_zero, Bool.not_true, Bool.not_false, Nat.sub_self, Nat.le_refl, Int.reduceLT, Int.reduceNeg, Nat.reducePow, Int.reducePow, Int.reduceToNat, Int.reduceAdd, Int.reduceSub, Int.reduceLE, Int.cast_ofNat_Int, Int.reduceBEq, List.flatten_cons, List.flatten_nil, Nat.reduceMul, Nat.one_mul, Nat.mul_one, Nat.mul_zero, Nat.zero_le, Int.reduceMul, ht, pathB, truth]
    simp only [tyOf] at ht
    first | (have := ht []; cases this; rfl) | (obtain ⟨p, e⟩ := hv; simp only [toPy] at e; cases e)
theorem wordB0 (v : D) : wordB [] v = madeB LET 8 v := by
  cases v <;> simp only [wordB, madeB, memB, List.map_nil, List.any_nil, Bool.or_false]
theorem F_word0 (v : D) (hv : Fz v) (h : Hd) : F_is_word [v, .tup []] h = .ok (.bl (madeB LET 8 v)) h := by
  rw [← wordB0]; exact F_wordE v hv [] h
theorem F_path0 (v : D) (hv : Fz v) (b : Bool) (h : Hd) : F_is_path [v, .tup [], .bl b] h = .ok (.bl (pathB [] b v)) h := F_pathE v hv [] b h
theorem F_way0 (v : D) (hv : Fz v) (b : Bool) (h : Hd) : F__law_is_way [v, .tup [], .bl b, .int 0] h = .ok (.bl (pathB [] b v)) h := F_wayE v hv [] (fun _ z => nomatch z) b h
theorem repr_9 (a b c d e f g i j : Bool) : ∃ z, ∀ h, fRepr [.lst [.bl a, .bl b, .bl c, .bl d, .bl e, .bl f, .bl g, .bl i, .bl j]] h = some (.v (.str z)) :=
  repr_lst (k := 9 * (5 + 2) + 3) (d := 1) (Sh.lst (n := 9) (fun x hx => by
    simp only [List.mem_cons, List.not_mem_nil, or_false] at hx
    rcases hx with rfl | rfl | rfl | rfl | rfl | rfl | rfl | rfl | rfl <;> exact Sh.bl _) (by simp)) (by decide) (by decide)
theorem F_right (v : D) {k : Nat} (hv : Sh k 5 v) (hk : k ≤ 100000) (qs : List Str) (hq : ∀ q ∈ qs, madeB CAP 4 (.str q) = true) (ha : Sh 100000 5 (.tup (qs.map .str))) (h : Hd) : F__law_is_right [v, .tup (qs.map .str)] h = .ok (.bl true) h := by
  have z := hv.fz
  obtain ⟨t, ht⟩ := repr_9 (madeB LET 8 v) (madeB CAP 4 v) (placeB v) (madeB LET 8 v) (wordB qs v) (pathB [] false v) (pathB qs false v) (pathB [] true v) (pathB qs true v)
  obtain ⟨u, hu⟩ := repr_lst (k := 2 * (100000 + 2) + 3) (d := 6) (Sh.lst (n := 2) (xs := [v, .tup (qs.map .str)]) (k := 100000) (d := 5) (fun x hx => by
    simp only [List.mem_cons, List.not_mem_nil, or_false] at hx
    rcases hx with rfl | rfl
    · exact hv.mono hk (Nat.le_refl _)
    · exact ha) (by simp)) (by decide) (by decide)
  have z0 : 0 ≤ sizeLine := Nat.zero_le _
  have z2 : 2 ≤ sizeLine := len_le (by decide)
  have z3 : 3 ≤ sizeLine := len_le (by decide)
  have z4 : 4 ≤ sizeLine := len_le (by decide)
  have z7 : 7 ≤ sizeLine := len_le (by decide)
  have z9 : 9 ≤ sizeLine := len_le (by decide)
  simp only [F__law_is_right, m__law_is_right, mc_at, mvar_at, mnil_at, mcons_at, mop1_at, mop2_at, mtup_at, mlst_at, mfun_at, mand_at, mor_at, mnot_at, mandT_at, morT_at, mnotT_at, mtru_at, mbl_at, mite_at, mchain_at, mcall_at, mcallN_at, mmeth_at, msl_at, mpart0, mpart1, mdic0_at, iseq_at, irng_at, mcomp_at, fin_none, fin_v, fin_newF, fin_newT, resM_some, resM_none, isLst_ref, lstOf_ref, lstOf_lst, seqOf_tup, seqOf_lst, seqOf_ref, seqOf_scr, truth_bl, ofE_at, ofT_at, sPass_at, sExpr_at, sRet_at, sRetN_at, sAsg_at, sIf_at, sSeq_at, sFor_at, forLoop_nil, forLoop_cons, gname_at, gtup_at, go_nil, go_cons, gstar_at, gsub_at, runB_at, startE_at, wipeE_nil, wipeE_cons, isi_at, len_at, all_lst, tuple_at, list_at, isN_eq, isN_ne, isN_in, isN_notIn, cmp_int, add_int, sub_int, mod_int, fdiv_int, mul_int, mul_lst, add_lst, add_refL, app_at, join_at, isStr_str, add_tup, add_str, int_bl, int_int, sl_tup, sl_lst, sl_str, pow_int, neg_int, ix_tup, ix_lst, ix_ref, ix_scr, Res.bind_ok, Res.bind_bad, Res.bind_exc, List.getElem?_cons_zero, List.getElem?_cons_succ, List.getElem?_nil, List.map_cons, List.map_nil, List.cons_append, List.nil_append, List.append_nil, List.length_cons, List.length_nil, List.set_cons_zero, List.set_cons_succ, Option.map_some, Option.map_none, Option.isSome_some, List.replicate_succ, List.replicate_zero, if_true, if_false, reduceIte, Nat.reduceAdd, Nat.reduceSub, Nat.reduceLeDiff, Nat.reduceEqDiff, Nat.reduceLT, Bool.false_eq_true, and_self, and_true, true_and, List.drop_succ_cons, List.drop_zero, List.take_succ_cons, List.take_zero, Nat.zero_add, Nat.add_zero, Bool.not_true, Bool.not_false, Nat.sub_self, Nat.le_refl, Int.reduceLT, Int.reduceNeg, Nat.reducePow, Int.reducePow, Int.reduceToNat, Int.reduceAdd, Int.reduceSub, Int.reduceLE, Int.cast_ofNat_Int, Int.reduceBEq, List.flatten_cons, List.flatten_nil, Nat.reduceMul, Nat.one_mul, Nat.mul_one, Nat.mul_zero, Nat.zero_le, Int.reduceMul, F_small v z, F_great v z, F_spot v z, F_fitE v z qs hq, F_way0 v z, F_wayE v z qs hq, F_name v z, F_par v z, F_place v z, F_word0 v z, F_wordE v z, F_path0 v z, F_pathE v z, gk_is_path_1_in_macro, gk_is_path_2_in_macro,
    z0, z2, z3, z4, z7, z9, ht, hu, rng2, eqv, beq_self_eq_true]
end EV


/-! K11c: the draws, the drawn values, the law. -/
namespace EV
open PySem PySem.Spec PyProof.Rows L2
/-! the draws -/
theorem draw (n : Nat) (h : Hd) (r : RngAt h n) (m : Int) (h0 : 0 < m) (h1 : m < 1073741824) : ∃ x h', F__law_draw [.ref n, .int m] h = .ok (.int x) h' ∧ Stp n h h' ∧ 0 ≤ x ∧ x < m := by
  have hn := r.lt
  obtain ⟨a, b, e, ha⟩ := r
  by_cases hp : 0 < a
  · refine ⟨a % m, h.set n (.lst [.int (a / m), .int b]), ?_, Stp.set hn (Int.ediv_nonneg ha (by omega)), Int.emod_nonneg _ (by omega), Int.emod_lt_of_pos _ h0⟩
    simp only [F__law_draw, m__law_draw, mc_at, mvar_at, mnil_at, mcons_at, mop1_at, mop2_at, mtup_at, mlst_at, mfun_at, mand_at, mor_at, mnot_at, mandT_at, morT_at, mnotT_at, mtru_at, mbl_at, mite_at, mchain_at, mcall_at, mcallN_at, mmeth_at, msl_at, mpart0, mpart1, mdic0_at, iseq_at, irng_at, mcomp_at, fin_none, fin_v, fin_newF, fin_newT, resM_some, resM_none, isLst_ref, lstOf_ref, lstOf_lst, seqOf_tup, seqOf_lst, seqOf_ref, seqOf_scr, truth_bl, ofE_at, ofT_at, sPass_at, sExpr_at, sRet_at, sRetN_at, sAsg_at, sIf_at, sSeq_at, sFor_at, forLoop_nil, forLoop_cons, gname_at, gtup_at, go_nil, go_cons, gstar_at, gsub_at, runB_at, startE_at, wipeE_nil, wipeE_cons, isi_at, len_at, all_lst, tuple_at, list_at, isN_eq, isN_ne, isN_in, isN_notIn, cmp_int, add_int, sub_int, mod_int, fdiv_int, mul_int, mul_lst, add_lst, add_refL, app_at, join_at, isStr_str, add_tup, add_str, int_bl, int_int, sl_tup, sl_lst, sl_str, pow_int, neg_int, ix_tup, ix_lst, ix_ref, ix_scr, Res.bind_ok, Res.bind_bad, Res.bind_exc, List.getElem?_cons_zero, List.getElem?_cons_succ, List.getElem?_nil, List.map_cons, List.map_nil, List.cons_append, List.nil_append, List.append_nil, List.length_cons, List.length_nil, List.set_cons_zero, List.set_cons_succ, Option.map_some, Option.map_none, Option.isSome_some, List.replicate_succ, List.replicate_zero, if_true, if_false, reduceIte, Nat.reduceAdd, Nat.reduceSub, Nat.reduceLeDiff, Nat.reduceEqDiff, Nat.reduceLT, Bool.false_eq_true, and_self, and_true, true_and, List.drop_succ_cons, List.drop_zero, List.take_succ_cons, List.take_zero, Nat.zero_add, Nat.add_zero, Bool.not_true, Bool.not_false, Nat.sub_self, Nat.le_refl, Int.reduceLT, Int.reduceNeg, Nat.reducePow, Int.reducePow, Int.reduceToNat, Int.reduceAdd, Int.reduceSub, Int.reduceLE, Int.cast_ofNat_Int, Int.reduceBEq, List.flatten_cons, List.flatten_nil, Nat.reduceMul, Nat.one_mul, Nat.mul_one, Nat.mul_zero, Nat.zero_le, Int.reduceMul, e, at0, hp, decide_true, fDivmod, h0, h1, Nat.zero_lt_succ]
  · obtain rfl : a = 0 := by omega
    obtain ⟨c, hc⟩ : ∃ c, c = (b * 39373 + 9311) % 2147483629 := ⟨_, rfl⟩
    refine ⟨c * c % 2147483563 / 11 % m, h.set n (.lst [.int 0, .int c]), ?_, Stp.set hn (Int.le_refl _), Int.emod_nonneg _ (by omega), Int.emod_lt_of_pos _ h0⟩
    have hb : -18446744073709551616 < c ∧ c < 18446744073709551616 := by omega
    simp only [F__law_draw, m__law_draw, mc_at, mvar_at, mnil_at, mcons_at, mop1_at, mop2_at, mtup_at, mlst_at, mfun_at, mand_at, mor_at, mnot_at, mandT_at, morT_at, mnotT_at, mtru_at, mbl_at, mite_at, mchain_at, mcall_at, mcallN_at, mmeth_at, msl_at, mpart0, mpart1, mdic0_at, iseq_at, irng_at, mcomp_at, fin_none, fin_v, fin_newF, fin_newT, resM_some, resM_none, isLst_ref, lstOf_ref, lstOf_lst, seqOf_tup, seqOf_lst, seqOf_ref, seqOf_scr, truth_bl, ofE_at, ofT_at, sPass_at, sExpr_at, sRet_at, sRetN_at, sAsg_at, sIf_at, sSeq_at, sFor_at, forLoop_nil, forLoop_cons, gname_at, gtup_at, go_nil, go_cons, gstar_at, gsub_at, runB_at, startE_at, wipeE_nil, wipeE_cons, isi_at, len_at, all_lst, tuple_at, list_at, isN_eq, isN_ne, isN_in, isN_notIn, cmp_int, add_int, sub_int, mod_int, fdiv_int, mul_int, mul_lst, add_lst, add_refL, app_at, join_at, isStr_str, add_tup, add_str, int_bl, int_int, sl_tup, sl_lst, sl_str, pow_int, neg_int, ix_tup, ix_lst, ix_ref, ix_scr, Res.bind_ok, Res.bind_bad, Res.bind_exc, List.getElem?_cons_zero, List.getElem?_cons_succ, List.getElem?_nil, List.map_cons, List.map_nil, List.cons_append, List.nil_append, List.append_nil, List.length_cons, List.length_nil, List.set_cons_zero, List.set_cons_succ, Option.map_some, Option.map_none, Option.isSome_some, List.replicate_succ, List.replicate_zero, if_true, if_false, reduceIte, Nat.reduceAdd, Nat.reduceSub, Nat.reduceLeDiff, Nat.reduceEqDiff, Nat.reduceLT, Bool.false_eq_true, and_self, and_true, true_and, List.drop_succ_cons, List.drop_zero, List.take_succ_cons, List.take_zero, Nat.zero_add, Nat.add_zero, Bool.not_true, Bool.not_false, Nat.sub_self, Nat.le_refl, Int.reduceLT, Int.reduceNeg, Nat.reducePow, Int.reducePow, Int.reduceToNat, Int.reduceAdd, Int.reduceSub, Int.reduceLE, Int.cast_ofNat_Int, Int.reduceBEq, List.flatten_cons, List.flatten_nil, Nat.reduceMul, Nat.one_mul, Nat.mul_one, Nat.mul_zero, Nat.zero_le, Int.reduceMul, e, at0, at1, hp, decide_false, h0, h1, hn, List.getElem?_set_self, List.set_set, List.length_set, or_true, true_or, ← hc, hb.1, hb.2]
theorem choice_of (n : Nat) (h : Hd) (r : RngAt h n) {d : D} {xs : List D} (hd : d = .lst xs ∨ d = .tup xs) (h0 : 0 < xs.length) (h1 : xs.length < 1000000) : ∃ y h', F__law_choice [.ref n, d] h = .ok y h' ∧ Stp n h h' ∧ y ∈ xs := by
  obtain ⟨x, h', e, s, p1, p2⟩ := draw n h r (xs.length : Int) (by omega) (by omega)
  obtain ⟨y, e2, hy⟩ := at_in p1 p2
  refine ⟨y, h', ?_, s, hy⟩
  rcases hd with rfl | rfl
  · simp only [F__law_choice, m__law_choice, mc_at, mvar_at, mnil_at, mcons_at, mop1_at, mop2_at, mtup_at, mlst_at, mfun_at, mand_at, mor_at, mnot_at, mandT_at, morT_at, mnotT_at, mtru_at, mbl_at, mite_at, mchain_at, mcall_at, mcallN_at, mmeth_at, msl_at, mpart0, mpart1, mdic0_at, iseq_at, irng_at, mcomp_at, fin_none, fin_v, fin_newF, fin_newT, resM_some, resM_none, isLst_ref, lstOf_ref, lstOf_lst, seqOf_tup, seqOf_lst, seqOf_ref, seqOf_scr, truth_bl, ofE_at, ofT_at, sPass_at, sExpr_at, sRet_at, sRetN_at, sAsg_at, sIf_at, sSeq_at, sFor_at, forLoop_nil, forLoop_cons, gname_at, gtup_at, go_nil, go_cons, gstar_at, gsub_at, runB_at, startE_at, wipeE_nil, wipeE_cons, isi_at, len_at, all_lst, tuple_at, list_at, isN_eq, isN_ne, isN_in, isN_notIn, cmp_int, add_int, sub_int, mod_int, fdiv_int, mul_int, mul_lst, add_lst, add_refL, app_at, join_at, isStr_str, add_tup, add_str, int_bl, int_int, sl_tup, sl_lst, sl_str, pow_int, neg_int, ix_tup, ix_lst, ix_ref, ix_scr, Res.bind_ok, Res.bind_bad, Res.bind_exc, List.getElem?_cons_zero, List.getElem?_cons_succ, List.getElem?_nil, List.map_cons, List.map_nil, List.cons_append, List.nil_append, List.append_nil, List.length_cons, List.length_nil, List.set_cons_zero, List.set_cons_succ, Option.map_some, Option.map_none, Option.isSome_some, List.replicate_succ, List.replicate_zero, if_true, if_false, reduceIte, Nat.reduceAdd, Nat.reduceSub, Nat.reduceLeDiff, Nat.reduceEqDiff, Nat.reduceLT, Bool.false_eq_true, and_self, and_true, true_and, List.drop_succ_cons, List.drop_zero, List.take_succ_cons, List.take_zero, Nat.zero_add, Nat.add_zero, Bool.not_true, Bool.not_false, Nat.sub_self, Nat.le_refl, Int.reduceLT, Int.reduceNeg, Nat.reducePow, Int.reducePow, Int.reduceToNat, Int.reduceAdd, Int.reduceSub, Int.reduceLE, Int.cast_ofNat_Int, Int.reduceBEq, List.flatten_cons, List.flatten_nil, Nat.reduceMul, Nat.one_mul, Nat.mul_one, Nat.mul_zero, Nat.zero_le, Int.reduceMul, lenOf, e, e2]
  · simp only [F__law_choice, m__law_choice, mc_at, mvar_at, mnil_at, mcons_at, mop1_at, mop2_at, mtup_at, mlst_at, mfun_at, mand_at, mor_at, mnot_at, mandT_at, morT_at, mnotT_at, mtru_at, mbl_at, mite_at, mchain_at, mcall_at, mcallN_at, mmeth_at, msl_at, mpart0, mpart1, mdic0_at, iseq_at, irng_at, mcomp_at, fin_none, fin_v, fin_newF, fin_newT, resM_some, resM_none, isLst_ref, lstOf_ref, lstOf_lst, seqOf_tup, seqOf_lst, seqOf_ref, seqOf_scr, truth_bl, ofE_at, ofT_at, sPass_at, sExpr_at, sRet_at, sRetN_at, sAsg_at, sIf_at, sSeq_at, sFor_at, forLoop_nil, forLoop_cons, gname_at, gtup_at, go_nil, go_cons, gstar_at, gsub_at, runB_at, startE_at, wipeE_nil, wipeE_cons, isi_at, len_at, all_lst, tuple_at, list_at, isN_eq, isN_ne, isN_in, isN_notIn, cmp_int, add_int, sub_int, mod_int, fdiv_int, mul_int, mul_lst, add_lst, add_refL, app_at, join_at, isStr_str, add_tup, add_str, int_bl, int_int, sl_tup, sl_lst, sl_str, pow_int, neg_int, ix_tup, ix_lst, ix_ref, ix_scr, Res.bind_ok, Res.bind_bad, Res.bind_exc, List.getElem?_cons_zero, List.getElem?_cons_succ, List.getElem?_nil, List.map_cons, List.map_nil, List.cons_append, List.nil_append, List.append_nil, List.length_cons, List.length_nil, List.set_cons_zero, List.set_cons_succ, Option.map_some, Option.map_none, Option.isSome_some, List.replicate_succ, List.replicate_zero, if_true, if_false, reduceIte, Nat.reduceAdd, Nat.reduceSub, Nat.reduceLeDiff, Nat.reduceEqDiff, Nat.reduceLT, Bool.false_eq_true, and_self, and_true, true_and, List.drop_succ_cons, List.drop_zero, List.take_succ_cons, List.take_zero, Nat.zero_add, Nat.add_zero, Bool.not_true, Bool.not_false, Nat.sub_self, Nat.le_refl, Int.reduceLT, Int.reduceNeg, Nat.reducePow, Int.reducePow, Int.reduceToNat, Int.reduceAdd, Int.reduceSub, Int.reduceLE, Int.cast_ofNat_Int, Int.reduceBEq, List.flatten_cons, List.flatten_nil, Nat.reduceMul, Nat.one_mul, Nat.mul_one, Nat.mul_zero, Nat.zero_le, Int.reduceMul, lenOf, e, e2]
theorem choice_str (n : Nat) (h : Hd) (r : RngAt h n) {z : Str} (h0 : 0 < z.length) (h1 : z.length < 1000000) : ∃ c h', F__law_choice [.ref n, .str z] h = .ok (.str ⟨#[c]⟩) h' ∧ Stp n h h' ∧ c ∈ z.cps.toList := by
  have hz : z.cps.toList.length = z.length := Array.length_toList
  obtain ⟨x, h', e, s, p1, p2⟩ := draw n h r (z.length : Int) (by omega) (by omega)
  obtain ⟨y, e2, hy⟩ := at_in (xs := z.cps.toList) p1 (by omega)
  refine ⟨y, h', ?_, s, hy⟩
  simp only [F__law_choice, m__law_choice, mc_at, mvar_at, mnil_at, mcons_at, mop1_at, mop2_at, mtup_at, mlst_at, mfun_at, mand_at, mor_at, mnot_at, mandT_at, morT_at, mnotT_at, mtru_at, mbl_at, mite_at, mchain_at, mcall_at, mcallN_at, mmeth_at, msl_at, mpart0, mpart1, mdic0_at, iseq_at, irng_at, mcomp_at, fin_none, fin_v, fin_newF, fin_newT, resM_some, resM_none, isLst_ref, lstOf_ref, lstOf_lst, seqOf_tup, seqOf_lst, seqOf_ref, seqOf_scr, truth_bl, ofE_at, ofT_at, sPass_at, sExpr_at, sRet_at, sRetN_at, sAsg_at, sIf_at, sSeq_at, sFor_at, forLoop_nil, forLoop_cons, gname_at, gtup_at, go_nil, go_cons, gstar_at, gsub_at, runB_at, startE_at, wipeE_nil, wipeE_cons, isi_at, len_at, all_lst, tuple_at, list_at, isN_eq, isN_ne, isN_in, isN_notIn, cmp_int, add_int, sub_int, mod_int, fdiv_int, mul_int, mul_lst, add_lst, add_refL, app_at, join_at, isStr_str, add_tup, add_str, int_bl, int_int, sl_tup, sl_lst, sl_str, pow_int, neg_int, ix_tup, ix_lst, ix_ref, ix_scr, Res.bind_ok, Res.bind_bad, Res.bind_exc, List.getElem?_cons_zero, List.getElem?_cons_succ, List.getElem?_nil, List.map_cons, List.map_nil, List.cons_append, List.nil_append, List.append_nil, List.length_cons, List.length_nil, List.set_cons_zero, List.set_cons_succ, Option.map_some, Option.map_none, Option.isSome_some, List.replicate_succ, List.replicate_zero, if_true, if_false, reduceIte, Nat.reduceAdd, Nat.reduceSub, Nat.reduceLeDiff, Nat.reduceEqDiff, Nat.reduceLT, Bool.false_eq_true, and_self, and_true, true_and, List.drop_succ_cons, List.drop_zero, List.take_succ_cons, List.take_zero, Nat.zero_add, Nat.add_zero, Bool.not_true, Bool.not_false, Nat.sub_self, Nat.le_refl, Int.reduceLT, Int.reduceNeg, Nat.reducePow, Int.reducePow, Int.reduceToNat, Int.reduceAdd, Int.reduceSub, Int.reduceLE, Int.cast_ofNat_Int, Int.reduceBEq, List.flatten_cons, List.flatten_nil, Nat.reduceMul, Nat.one_mul, Nat.mul_one, Nat.mul_zero, Nat.zero_le, Int.reduceMul, lenOf, e, oIx, e2]
theorem rng_new (ns : List Int) (k : Nat) (hk : k ≤ 1000) (h : Hd) : ∃ a b, F__law_rng [.scr ns, .int (k : Int)] h = .ok (.ref h.length) (h ++ [.lst [.int a, .int b]]) ∧ 0 ≤ a := by
  have h2 : (10 : Int).natAbs < 18446744073709551616 := by decide
  have h3 : (2 : Nat) ≤ sizeLine := len_le (by decide)
  by_cases hl : (k : Int) < ns.length
  · obtain ⟨y, e, hy⟩ := at_in (xs := ns.map D.int) (i := (k : Int)) (by omega) (by simpa using hl)
    obtain ⟨c, _, rfl⟩ := List.mem_map.mp hy
    obtain ⟨d, hd⟩ : ∃ d, d = (if c < 0 then -c else c) := ⟨_, rfl⟩
    have h1 : (d % 2147483563 + 4099 * (k : Int) + 17).natAbs < 18446744073709551616 := by omega
    refine ⟨if d - 1000000000000000000 > 0 then d - 1000000000000000000 else 0, (d % 2147483563 + 4099 * (k : Int) + 17) ^ 2 % 2147483549 + 1, ?_, by split <;> omega⟩
    simp only [F__law_rng, m__law_rng, mc_at, mvar_at, mnil_at, mcons_at, mop1_at, mop2_at, mtup_at, mlst_at, mfun_at, mand_at, mor_at, mnot_at, mandT_at, morT_at, mnotT_at, mtru_at, mbl_at, mite_at, mchain_at, mcall_at, mcallN_at, mmeth_at, msl_at, mpart0, mpart1, mdic0_at, iseq_at, irng_at, mcomp_at, fin_none, fin_v, fin_newF, fin_newT, resM_some, resM_none, isLst_ref, lstOf_ref, lstOf_lst, seqOf_tup, seqOf_lst, seqOf_ref, seqOf_scr, truth_bl, ofE_at, ofT_at, sPass_at, sExpr_at, sRet_at, sRetN_at, sAsg_at, sIf_at, sSeq_at, sFor_at, forLoop_nil, forLoop_cons, gname_at, gtup_at, go_nil, go_cons, gstar_at, gsub_at, runB_at, startE_at, wipeE_nil, wipeE_cons, isi_at, len_at, all_lst, tuple_at, list_at, isN_eq, isN_ne, isN_in, isN_notIn, cmp_int, add_int, sub_int, mod_int, fdiv_int, mul_int, mul_lst, add_lst, add_refL, app_at, join_at, isStr_str, add_tup, add_str, int_bl, int_int, sl_tup, sl_lst, sl_str, pow_int, neg_int, ix_tup, ix_lst, ix_ref, ix_scr, Res.bind_ok, Res.bind_bad, Res.bind_exc, List.getElem?_cons_zero, List.getElem?_cons_succ, List.getElem?_nil, List.map_cons, List.map_nil, List.cons_append, List.nil_append, List.append_nil, List.length_cons, List.length_nil, List.set_cons_zero, List.set_cons_succ, Option.map_some, Option.map_none, Option.isSome_some, List.replicate_succ, List.replicate_zero, if_true, if_false, reduceIte, Nat.reduceAdd, Nat.reduceSub, Nat.reduceLeDiff, Nat.reduceEqDiff, Nat.reduceLT, Bool.false_eq_true, and_self, and_true, true_and, List.drop_succ_cons, List.drop_zero, List.take_succ_cons, List.take_zero, Nat.zero_add, Nat.add_zero, Bool.not_true, Bool.not_false, Nat.sub_self, Nat.le_refl, Int.reduceLT, Int.reduceNeg, Nat.reducePow, Int.reducePow, Int.reduceToNat, Int.reduceAdd, Int.reduceSub, Int.reduceLE, Int.cast_ofNat_Int, Int.reduceBEq, List.flatten_cons, List.flatten_nil, Nat.reduceMul, Nat.one_mul, Nat.mul_one, Nat.mul_zero, Nat.zero_le, Int.reduceMul, lenOf, List.length_map, hl, decide_true, e, fAbs, fMax, h1, h2, h3, true_or, ← hd]
  · have h1 : ((0 : Int) % 2147483563 + 4099 * (k : Int) + 17).natAbs < 18446744073709551616 := by omega
    refine ⟨0, ((0 : Int) % 2147483563 + 4099 * (k : Int) + 17) ^ 2 % 2147483549 + 1, ?_, Int.le_refl _⟩
    simp only [F__law_rng, m__law_rng, mc_at, mvar_at, mnil_at, mcons_at, mop1_at, mop2_at, mtup_at, mlst_at, mfun_at, mand_at, mor_at, mnot_at, mandT_at, morT_at, mnotT_at, mtru_at, mbl_at, mite_at, mchain_at, mcall_at, mcallN_at, mmeth_at, msl_at, mpart0, mpart1, mdic0_at, iseq_at, irng_at, mcomp_at, fin_none, fin_v, fin_newF, fin_newT, resM_some, resM_none, isLst_ref, lstOf_ref, lstOf_lst, seqOf_tup, seqOf_lst, seqOf_ref, seqOf_scr, truth_bl, ofE_at, ofT_at, sPass_at, sExpr_at, sRet_at, sRetN_at, sAsg_at, sIf_at, sSeq_at, sFor_at, forLoop_nil, forLoop_cons, gname_at, gtup_at, go_nil, go_cons, gstar_at, gsub_at, runB_at, startE_at, wipeE_nil, wipeE_cons, isi_at, len_at, all_lst, tuple_at, list_at, isN_eq, isN_ne, isN_in, isN_notIn, cmp_int, add_int, sub_int, mod_int, fdiv_int, mul_int, mul_lst, add_lst, add_refL, app_at, join_at, isStr_str, add_tup, add_str, int_bl, int_int, sl_tup, sl_lst, sl_str, pow_int, neg_int, ix_tup, ix_lst, ix_ref, ix_scr, Res.bind_ok, Res.bind_bad, Res.bind_exc, List.getElem?_cons_zero, List.getElem?_cons_succ, List.getElem?_nil, List.map_cons, List.map_nil, List.cons_append, List.nil_append, List.append_nil, List.length_cons, List.length_nil, List.set_cons_zero, List.set_cons_succ, Option.map_some, Option.map_none, Option.isSome_some, List.replicate_succ, List.replicate_zero, if_true, if_false, reduceIte, Nat.reduceAdd, Nat.reduceSub, Nat.reduceLeDiff, Nat.reduceEqDiff, Nat.reduceLT, Bool.false_eq_true, and_self, and_true, true_and, List.drop_succ_cons, List.drop_zero, List.take_succ_cons, List.take_zero, Nat.zero_add, Nat.add_zero, Bool.not_true, Bool.not_false, Nat.sub_self, Nat.le_refl, Int.reduceLT, Int.reduceNeg, Nat.reducePow, Int.reducePow, Int.reduceToNat, Int.reduceAdd, Int.reduceSub, Int.reduceLE, Int.cast_ofNat_Int, Int.reduceBEq, List.flatten_cons, List.flatten_nil, Nat.reduceMul, Nat.one_mul, Nat.mul_one, Nat.mul_zero, Nat.zero_le, Int.reduceMul, lenOf, List.length_map, hl, decide_false, fMax, h1, h2, h3, true_or]
    rfl
theorem shuffled_of (n : Nat) (h : Hd) (r : RngAt h n) {xs : List D} (h1 : xs.length < 1000000) : ∃ ys h', F__law_shuffled [.ref n, .lst xs] h = .ok (.lst ys) h' ∧ Stp n h h' ∧ (∀ y ∈ ys, y ∈ xs) ∧ ys.length = xs.length := by
  have hn := r.lt
  have s0 := Stp.push r (.lst xs)
  obtain ⟨ys, h', e, ⟨s, _⟩, p, l⟩ := comp_stI (i := 3) (env := [some (.ref n), some (.lst xs), some (.ref h.length), none]) (elt := mmeth isLst fPop (mvar 2) (mcons (mcall F__law_draw 2 [] (mcons (mvar 0) (mcons (mfun false fLen (mcons (mvar 2) mnil)) mnil))) mnil))
    (J := fun i h' => Stp n h h' ∧ ∃ ls, h'[h.length]? = some (.lst ls) ∧ ls.length + i = xs.length ∧ ∀ y ∈ ls, y ∈ xs) (P := fun y => y ∈ xs) (xs := (List.range xs.length).map fun k : Nat => D.int (k : Int)) (acc := []) (h := h ++ [.lst xs])
    (fun i hi x h2 ⟨s2, ls, e2, l2, m2⟩ => by
      rw [List.length_map, List.length_range] at hi
      obtain ⟨x, h3, e3, s3, p1, p2⟩ := draw n h2 s2.rng (ls.length : Int) (by omega) (by omega)
      have e4 : h3[h.length]? = some (.lst ls) := by rw [s3.same h.length (by have := s2.len; have := (List.getElem?_eq_some_iff.mp e2).1; omega) (by omega)]; exact e2
      have p3 : x.toNat < ls.length := by omega
      have hp3 := (List.getElem?_eq_some_iff.mp e4).1
      refine ⟨ls[x.toNat], h3.set h.length (.lst (ls.eraseIdx x.toNat)), ?_, ⟨?_, ls.eraseIdx x.toNat, List.getElem?_set_self hp3, by rw [List.length_eraseIdx_of_lt p3]; omega, fun y hy => m2 y (List.mem_of_mem_eraseIdx hy)⟩, m2 _ (List.getElem_mem p3)⟩
      · simp only [mc_at, mvar_at, mnil_at, mcons_at, mop1_at, mop2_at, mtup_at, mlst_at, mfun_at, mand_at, mor_at, mnot_at, mandT_at, morT_at, mnotT_at, mtru_at, mbl_at, mite_at, mchain_at, mcall_at, mcallN_at, mmeth_at, msl_at, mpart0, mpart1, mdic0_at, iseq_at, irng_at, mcomp_at, fin_none, fin_v, fin_newF, fin_newT, resM_some, resM_none, isLst_ref, lstOf_ref, lstOf_lst, seqOf_tup, seqOf_lst, seqOf_ref, seqOf_scr, truth_bl, ofE_at, ofT_at, sPass_at, sExpr_at, sRet_at, sRetN_at, sAsg_at, sIf_at, sSeq_at, sFor_at, forLoop_nil, forLoop_cons, gname_at, gtup_at, go_nil, go_cons, gstar_at, gsub_at, runB_at, startE_at, wipeE_nil, wipeE_cons, isi_at, len_at, all_lst, tuple_at, list_at, isN_eq, isN_ne, isN_in, isN_notIn, cmp_int, add_int, sub_int, mod_int, fdiv_int, mul_int, mul_lst, add_lst, add_refL, app_at, join_at, isStr_str, add_tup, add_str, int_bl, int_int, sl_tup, sl_lst, sl_str, pow_int, neg_int, ix_tup, ix_lst, ix_ref, ix_scr, Res.bind_ok, Res.bind_bad, Res.bind_exc, List.getElem?_cons_zero, List.getElem?_cons_succ, List.getElem?_nil, List.map_cons, List.map_nil, List.cons_append, List.nil_append, List.append_nil, List.length_cons, List.length_nil, List.set_cons_zero, List.set_cons_succ, Option.map_some, Option.map_none, Option.isSome_some, List.replicate_succ, List.replicate_zero, if_true, if_false, reduceIte, Nat.reduceAdd, Nat.reduceSub, Nat.reduceLeDiff, Nat.reduceEqDiff, Nat.reduceLT, Bool.false_eq_true, and_self, and_true, true_and, List.drop_succ_cons, List.drop_zero, List.take_succ_cons, List.take_zero, Nat.zero_add, Nat.add_zero, Bool.not_true, Bool.not_false, Nat.sub_self, Nat.le_refl, Int.reduceLT, Int.reduceNeg, Nat.reducePow, Int.reducePow, Int.reduceToNat, Int.reduceAdd, Int.reduceSub, Int.reduceLE, Int.cast_ofNat_Int, Int.reduceBEq, List.flatten_cons, List.flatten_nil, Nat.reduceMul, Nat.one_mul, Nat.mul_one, Nat.mul_zero, Nat.zero_le, Int.reduceMul, lenOf, e2, e3, fPop, e4, p1, p2, List.getElem?_eq_getElem p3]
      · have s4 := s2.trans s3
        obtain ⟨a, b, ea, ha⟩ := s4.rng
        exact ⟨⟨a, b, by rw [List.getElem?_set_ne (by omega)]; exact ea, ha⟩, by rw [List.length_set]; exact s4.len, fun j hj hne => by rw [List.getElem?_set_ne (by omega)]; exact s4.same j hj hne⟩)
    ⟨s0, xs, by simp, by omega, fun _ z => z⟩
  refine ⟨ys, h', ?_, s, p, by simpa using l⟩
  simp only [List.nil_append] at e
  simp only [F__law_shuffled, m__law_shuffled, mc_at, mvar_at, mnil_at, mcons_at, mop1_at, mop2_at, mtup_at, mlst_at, mfun_at, mand_at, mor_at, mnot_at, mandT_at, morT_at, mnotT_at, mtru_at, mbl_at, mite_at, mchain_at, mcall_at, mcallN_at, mmeth_at, msl_at, mpart0, mpart1, mdic0_at, iseq_at, irng_at, mcomp_at, fin_none, fin_v, fin_newF, fin_newT, resM_some, resM_none, isLst_ref, lstOf_ref, lstOf_lst, seqOf_tup, seqOf_lst, seqOf_ref, seqOf_scr, truth_bl, ofE_at, ofT_at, sPass_at, sExpr_at, sRet_at, sRetN_at, sAsg_at, sIf_at, sSeq_at, sFor_at, forLoop_nil, forLoop_cons, gname_at, gtup_at, go_nil, go_cons, gstar_at, gsub_at, runB_at, startE_at, wipeE_nil, wipeE_cons, isi_at, len_at, all_lst, tuple_at, list_at, isN_eq, isN_ne, isN_in, isN_notIn, cmp_int, add_int, sub_int, mod_int, fdiv_int, mul_int, mul_lst, add_lst, add_refL, app_at, join_at, isStr_str, add_tup, add_str, int_bl, int_int, sl_tup, sl_lst, sl_str, pow_int, neg_int, ix_tup, ix_lst, ix_ref, ix_scr, Res.bind_ok, Res.bind_bad, Res.bind_exc, List.getElem?_cons_zero, List.getElem?_cons_succ, List.getElem?_nil, List.map_cons, List.map_nil, List.cons_append, List.nil_append, List.append_nil, List.length_cons, List.length_nil, List.set_cons_zero, List.set_cons_succ, Option.map_some, Option.map_none, Option.isSome_some, List.replicate_succ, List.replicate_zero, if_true, if_false, reduceIte, Nat.reduceAdd, Nat.reduceSub, Nat.reduceLeDiff, Nat.reduceEqDiff, Nat.reduceLT, Bool.false_eq_true, and_self, and_true, true_and, List.drop_succ_cons, List.drop_zero, List.take_succ_cons, List.take_zero, Nat.zero_add, Nat.add_zero, Bool.not_true, Bool.not_false, Nat.sub_self, Nat.le_refl, Int.reduceLT, Int.reduceNeg, Nat.reducePow, Int.reducePow, Int.reduceToNat, Int.reduceAdd, Int.reduceSub, Int.reduceLE, Int.cast_ofNat_Int, Int.reduceBEq, List.flatten_cons, List.flatten_nil, Nat.reduceMul, Nat.one_mul, Nat.mul_one, Nat.mul_zero, Nat.zero_le, Int.reduceMul, lenOf, range_ok h1, e]
theorem text_of (n : Nat) (h : Hd) (r : RngAt h n) : ∃ z h', F__law_text [.ref n] h = .ok (.str z) h' ∧ Stp n h h' ∧ Sm 21 z := by
  obtain ⟨x, h1, e1, s1, p1, q1⟩ := draw n h r 2 (by decide) (by decide)
  obtain ⟨L, eL, mL⟩ := at_in (xs := [D.str LET, D.str CAP]) p1 q1
  obtain ⟨l, rfl, hl⟩ : ∃ l, L = .str l ∧ smB 26 l = true ∧ 0 < l.length := by
    simp only [List.mem_cons, List.not_mem_nil, or_false] at mL
    rcases mL with rfl | rfl
    · exact ⟨_, rfl, by decide +kernel⟩
    · exact ⟨_, rfl, by decide +kernel⟩
  obtain ⟨hl, l0⟩ := hl
  have sl := sm_of hl
  obtain ⟨y, h2, e2, s2, p2, q2⟩ := draw n h1 s1.rng 11 (by decide) (by decide)
  obtain ⟨m, rfl⟩ := Int.eq_ofNat_of_zero_le p2
  obtain ⟨ys, h3, e3, s3, P3, l3⟩ := comp_st (i := 4) (env := [some (.ref n), some (.str l), none, none, none]) (elt := mcall F__law_choice 2 [] (mcons (mvar 0) (mcons (mvar 1) mnil))) (J := fun h' => Stp n h2 h') (P := fun y => ∃ z, y = .str z ∧ Sm 1 z)
    (xs := (List.range m).map fun k : Nat => D.int (k : Int)) (acc := []) (h := h2) (fun x _ h4 s4 => by
      obtain ⟨c, h5, e5, s5, m5⟩ := choice_str n h4 s4.rng l0 (by have := sl.len; omega)
      refine ⟨.str ⟨#[c]⟩, h5, ?_, s4.trans s5, ⟨#[c]⟩, rfl, Nat.le_refl 1, fun k hk => ?_⟩
      · simp only [mc_at, mvar_at, mnil_at, mcons_at, mop1_at, mop2_at, mtup_at, mlst_at, mfun_at, mand_at, mor_at, mnot_at, mandT_at, morT_at, mnotT_at, mtru_at, mbl_at, mite_at, mchain_at, mcall_at, mcallN_at, mmeth_at, msl_at, mpart0, mpart1, mdic0_at, iseq_at, irng_at, mcomp_at, fin_none, fin_v, fin_newF, fin_newT, resM_some, resM_none, isLst_ref, lstOf_ref, lstOf_lst, seqOf_tup, seqOf_lst, seqOf_ref, seqOf_scr, truth_bl, ofE_at, ofT_at, sPass_at, sExpr_at, sRet_at, sRetN_at, sAsg_at, sIf_at, sSeq_at, sFor_at, forLoop_nil, forLoop_cons, gname_at, gtup_at, go_nil, go_cons, gstar_at, gsub_at, runB_at, startE_at, wipeE_nil, wipeE_cons, isi_at, len_at, all_lst, tuple_at, list_at, isN_eq, isN_ne, isN_in, isN_notIn, cmp_int, add_int, sub_int, mod_int, fdiv_int, mul_int, mul_lst, add_lst, add_refL, app_at, join_at, isStr_str, add_tup, add_str, int_bl, int_int, sl_tup, sl_lst, sl_str, pow_int, neg_int, ix_tup, ix_lst, ix_ref, ix_scr, Res.bind_ok, Res.bind_bad, Res.bind_exc, List.getElem?_cons_zero, List.getElem?_cons_succ, List.getElem?_nil, List.map_cons, List.map_nil, List.cons_append, List.nil_append, List.append_nil, List.length_cons, List.length_nil, List.set_cons_zero, List.set_cons_succ, Option.map_some, Option.map_none, Option.isSome_some, List.replicate_succ, List.replicate_zero, if_true, if_false, reduceIte, Nat.reduceAdd, Nat.reduceSub, Nat.reduceLeDiff, Nat.reduceEqDiff, Nat.reduceLT, Bool.false_eq_true, and_self, and_true, true_and, List.drop_succ_cons, List.drop_zero, List.take_succ_cons, List.take_zero, Nat.zero_add, Nat.add_zero, Bool.not_true, Bool.not_false, Nat.sub_self, Nat.le_refl, Int.reduceLT, Int.reduceNeg, Nat.reducePow, Int.reducePow, Int.reduceToNat, Int.reduceAdd, Int.reduceSub, Int.reduceLE, Int.cast_ofNat_Int, Int.reduceBEq, List.flatten_cons, List.flatten_nil, Nat.reduceMul, Nat.one_mul, Nat.mul_one, Nat.mul_zero, Nat.zero_le, Int.reduceMul, e5]
      · have : k = c := by simpa using hk
        rw [this]; exact sl.sig c m5) (Stp.refl s2.rng)
  obtain ⟨zs, ez, az, lz, sz⟩ := strs1_of P3
  rw [List.length_map, List.length_range] at l3
  have sj := (Sm.join0 az).mono (k := 10) (by omega)
  have hj : (zs.map (·.length)).sum + zs.length * (("" : Str).length) ≤ 16777216 := by rw [show ("" : Str).length = 0 from rfl]; omega
  obtain ⟨w, h6, e6, s6, p6, q6⟩ := draw n h3 s3.rng 3 (by decide) (by decide)
  have s36 := ((s1.trans s2).trans s3).trans s6
  have z1 : 1 ≤ sizeLine := len_le (by decide)
  have z2 : 2 ≤ sizeLine := len_le (by decide)
  simp only [List.nil_append] at e3
  by_cases hw : w = 0
  · subst hw
    obtain ⟨t, h7, e7, s7, p7, q7⟩ := draw n h6 s6.rng ((Str.join "" zs).length + 1 : Int) (by omega) (by have := sj.len; omega)
    obtain ⟨y, h8, e8, s8, m8⟩ := choice_of n h7 s7.rng (d := .lst [.str "a", .str "Z", .str "0", .str "_", .str " ", .str ":", .str "-", .str "\n"]) (.inl rfl) (by decide) (by decide)
    obtain ⟨u, rfl, hu⟩ : ∃ u, y = .str u ∧ smB 1 u = true := by
      simp only [List.mem_cons, List.not_mem_nil, or_false] at m8
      rcases m8 with rfl | rfl | rfl | rfl | rfl | rfl | rfl | rfl <;> exact ⟨_, rfl, by decide +kernel⟩
    have su := sm_of hu
    obtain ⟨v, h9, e9, s9, p9, q9⟩ := draw n h8 s8.rng 2 (by decide) (by decide)
    have z8 : 8 ≤ sizeLine := len_le (by decide)
    have c1 := sj.cut none (some t)
    have c2 := sj.cut (some (t + v)) none
    have a1 := c1.add su
    have a2 := a1.add c2
    have b1 : (cutS (Str.join "" zs) none (some t)).length + u.length ≤ sizeLine := len_le (by have := c1.len; have := su.len; omega)
    have b2 : (cutS (Str.join "" zs) none (some t) ++ u).length + (cutS (Str.join "" zs) (some (t + v)) none).length ≤ sizeLine := len_le (by have := a1.len; have := c2.len; omega)
    refine ⟨_, h9, ?_, (((s36.trans s7).trans s8).trans s9), a2⟩
    simp only [F__law_text, m__law_text, mc_at, mvar_at, mnil_at, mcons_at, mop1_at, mop2_at, mtup_at, mlst_at, mfun_at, mand_at, mor_at, mnot_at, mandT_at, morT_at, mnotT_at, mtru_at, mbl_at, mite_at, mchain_at, mcall_at, mcallN_at, mmeth_at, msl_at, mpart0, mpart1, mdic0_at, iseq_at, irng_at, mcomp_at, fin_none, fin_v, fin_newF, fin_newT, resM_some, resM_none, isLst_ref, lstOf_ref, lstOf_lst, seqOf_tup, seqOf_lst, seqOf_ref, seqOf_scr, truth_bl, ofE_at, ofT_at, sPass_at, sExpr_at, sRet_at, sRetN_at, sAsg_at, sIf_at, sSeq_at, sFor_at, forLoop_nil, forLoop_cons, gname_at, gtup_at, go_nil, go_cons, gstar_at, gsub_at, runB_at, startE_at, wipeE_nil, wipeE_cons, isi_at, len_at, all_lst, tuple_at, list_at, isN_eq, isN_ne, isN_in, isN_notIn, cmp_int, add_int, sub_int, mod_int, fdiv_int, mul_int, mul_lst, add_lst, add_refL, app_at, join_at, isStr_str, add_tup, add_str, int_bl, int_int, sl_tup, sl_lst, sl_str, pow_int, neg_int, ix_tup, ix_lst, ix_ref, ix_scr, Res.bind_ok, Res.bind_bad, Res.bind_exc, List.getElem?_cons_zero, List.getElem?_cons_succ, List.getElem?_nil, List.map_cons, List.map_nil, List.cons_append, List.nil_append, List.append_nil, List.length_cons, List.length_nil, List.set_cons_zero, List.set_cons_succ, Option.map_some, Option.map_none, Option.isSome_some, List.replicate_succ, List.replicate_zero, if_true, if_false, reduceIte, Nat.reduceAdd, Nat.reduceSub, Nat.reduceLeDiff, Nat.reduceEqDiff, Nat.reduceLT, Bool.false_eq_true, and_self, and_true, true_and, List.drop_succ_cons, List.drop_zero, List.take_succ_cons, List.take_zero, Nat.zero_add, Nat.add_zero, Bool.not_true, Bool.not_false, Nat.sub_self, Nat.le_refl, Int.reduceLT, Int.reduceNeg, Nat.reducePow, Int.reducePow, Int.reduceToNat, Int.reduceAdd, Int.reduceSub, Int.reduceLE, Int.cast_ofNat_Int, Int.reduceBEq, List.flatten_cons, List.flatten_nil, Nat.reduceMul, Nat.one_mul, Nat.mul_one, Nat.mul_zero, Nat.zero_le, Int.reduceMul, e1, eL, e2, z2, z8, range_ok (n := m) (by omega), e3, ez, hj, e6, eqv, beq_self_eq_true, lenOf, e7, e8, e9, b1, b2]
  · have hw' : (w == 0) = false := beq_eq_false_iff_ne.mpr hw
    refine ⟨Str.join "" zs, h6, ?_, s36, sj.mono (by decide)⟩
    simp only [F__law_text, m__law_text, mc_at, mvar_at, mnil_at, mcons_at, mop1_at, mop2_at, mtup_at, mlst_at, mfun_at, mand_at, mor_at, mnot_at, mandT_at, morT_at, mnotT_at, mtru_at, mbl_at, mite_at, mchain_at, mcall_at, mcallN_at, mmeth_at, msl_at, mpart0, mpart1, mdic0_at, iseq_at, irng_at, mcomp_at, fin_none, fin_v, fin_newF, fin_newT, resM_some, resM_none, isLst_ref, lstOf_ref, lstOf_lst, seqOf_tup, seqOf_lst, seqOf_ref, seqOf_scr, truth_bl, ofE_at, ofT_at, sPass_at, sExpr_at, sRet_at, sRetN_at, sAsg_at, sIf_at, sSeq_at, sFor_at, forLoop_nil, forLoop_cons, gname_at, gtup_at, go_nil, go_cons, gstar_at, gsub_at, runB_at, startE_at, wipeE_nil, wipeE_cons, isi_at, len_at, all_lst, tuple_at, list_at, isN_eq, isN_ne, isN_in, isN_notIn, cmp_int, add_int, sub_int, mod_int, fdiv_int, mul_int, mul_lst, add_lst, add_refL, app_at, join_at, isStr_str, add_tup, add_str, int_bl, int_int, sl_tup, sl_lst, sl_str, pow_int, neg_int, ix_tup, ix_lst, ix_ref, ix_scr, Res.bind_ok, Res.bind_bad, Res.bind_exc, List.getElem?_cons_zero, List.getElem?_cons_succ, List.getElem?_nil, List.map_cons, List.map_nil, List.cons_append, List.nil_append, List.append_nil, List.length_cons, List.length_nil, List.set_cons_zero, List.set_cons_succ, Option.map_some, Option.map_none, Option.isSome_some, List.replicate_succ, List.replicate_zero, if_true, if_false, reduceIte, Nat.reduceAdd, Nat.reduceSub, Nat.reduceLeDiff, Nat.reduceEqDiff, Nat.reduceLT, Bool.false_eq_true, and_self, and_true, true_and, List.drop_succ_cons, List.drop_zero, List.take_succ_cons, List.take_zero, Nat.zero_add, Nat.add_zero, Bool.not_true, Bool.not_false, Nat.sub_self, Nat.le_refl, Int.reduceLT, Int.reduceNeg, Nat.reducePow, Int.reducePow, Int.reduceToNat, Int.reduceAdd, Int.reduceSub, Int.reduceLE, Int.cast_ofNat_Int, Int.reduceBEq, List.flatten_cons, List.flatten_nil, Nat.reduceMul, Nat.one_mul, Nat.mul_one, Nat.mul_zero, Nat.zero_le, Int.reduceMul, e1, eL, e2, z2, range_ok (n := m) (by omega), e3, ez, hj, e6, eqv, hw']
def odds1 : List D := [.non, .bl true, .bl false, .int 0, .int 1, .int (-1), .str "", .str "root", .str "here", .str "there", .tup [], .lst [], .dic [] [], .lst [.int 0], .lst [.str "root", .str "a"], .tup [.str "", .str "a"]]
def odds2 : List D := [.tup [.str "a"], .tup [.int 0], .tup [.int 0, .int 12], .tup [.bl true], .tup [.int 0, .int (-1)], .tup [.int 0, .str "1"], .tup [.tup [.int 0]], .tup [.str "root", .str ""], .tup [.str "root", .non]]
def odds3 : List D := [.tup [.str "Root", .str "a"], .tup [.str "there", .int 0], .tup [.non, .str "a"], .tup [.str "root", .lst [.str "a"]], .tup [.int 100000000000000000000000000000, .int 0]]
abbrev odds : List D := odds1 ++ odds2 ++ [.tup [.str "here", .str "a", .str "A"]] ++ odds3
theorem odds_ok : odds.all (shB 1000 5) = true := by decide +kernel
theorem odd_of (n : Nat) (h : Hd) (r : RngAt h n) : ∃ v h', F__law_odd [.ref n] h = .ok v h' ∧ Stp n h h' ∧ Sh 1000 5 v := by
  have hn := r.lt
  have s1 := Stp.push r (.lst odds1)
  have s2 := s1.trans (Stp.push s1.rng (.lst (odds1 ++ odds2)))
  have s3 : Stp n h ((h ++ [MO.lst odds1] ++ [MO.lst (odds1 ++ odds2)]).set (h.length + 1) (MO.lst (odds1 ++ odds2 ++ [D.tup [.str "here", .str "a", .str "A"]]))) := by
    obtain ⟨a, b, ea, ha⟩ := s2.rng
    exact ⟨⟨a, b, by rw [List.getElem?_set_ne (by omega)]; exact ea, ha⟩, by rw [List.length_set]; exact s2.len, fun j hj hne => by rw [List.getElem?_set_ne (by omega)]; exact s2.same j hj hne⟩
  obtain ⟨v, h', e, s, m⟩ := choice_of n _ s3.rng (d := .lst odds) (.inl rfl) (by decide) (by decide)
  refine ⟨v, h', ?_, s3.trans s, sh_in odds_ok m⟩
  have z1 : 1 ≤ sizeLine := len_le (by decide)
  have z2 : 2 ≤ sizeLine := len_le (by decide)
  have z3 : 3 ≤ sizeLine := len_le (by decide)
  have z5 : 5 ≤ sizeLine := len_le (by decide)
  have z9 : 9 ≤ sizeLine := len_le (by decide)
  have z16 : 16 ≤ sizeLine := len_le (by decide)
  have z25 : 25 ≤ sizeLine := len_le (by decide)
  have z31 : 31 ≤ sizeLine := len_le (by decide)
  have y25 : 25 < sizeLine := by rw [sizeLine_eq]; decide
  have g1 : (10 : Int).natAbs < 18446744073709551616 := by decide
  have l1 : ((h ++ [MO.lst odds1]) ++ [MO.lst (odds1 ++ odds2)])[h.length + 1]? = some (.lst (odds1 ++ odds2)) := by
    rw [List.getElem?_append_right (by simp)]; simp
  have l0 : (h ++ [MO.lst odds1])[h.length]? = some (.lst odds1) := by simp
  have l3 : ((h ++ [MO.lst odds1] ++ [MO.lst (odds1 ++ odds2)]).set (h.length + 1) (MO.lst (odds1 ++ odds2 ++ [D.tup [.str "here", .str "a", .str "A"]])))[h.length + 1]? = some (.lst (odds1 ++ odds2 ++ [.tup [.str "here", .str "a", .str "A"]])) := by
    rw [List.getElem?_set_self (by simp)]
  have n0 : (h ++ [MO.lst odds1]).length = h.length + 1 := by simp
  simp only [odds, odds1, odds2, odds3, List.cons_append, List.nil_append] at l0 l1 l3 e n0
  simp only [F__law_odd, m__law_odd, mc_at, mvar_at, mnil_at, mcons_at, mop1_at, mop2_at, mtup_at, mlst_at, mfun_at, mand_at, mor_at, mnot_at, mandT_at, morT_at, mnotT_at, mtru_at, mbl_at, mite_at, mchain_at, mcall_at, mcallN_at, mmeth_at, msl_at, mpart0, mpart1, mdic0_at, iseq_at, irng_at, mcomp_at, fin_none, fin_v, fin_newF, fin_newT, resM_some, resM_none, isLst_ref, lstOf_ref, lstOf_lst, seqOf_tup, seqOf_lst, seqOf_ref, seqOf_scr, truth_bl, ofE_at, ofT_at, sPass_at, sExpr_at, sRet_at, sRetN_at, sAsg_at, sIf_at, sSeq_at, sFor_at, forLoop_nil, forLoop_cons, gname_at, gtup_at, go_nil, go_cons, gstar_at, gsub_at, runB_at, startE_at, wipeE_nil, wipeE_cons, isi_at, len_at, all_lst, tuple_at, list_at, isN_eq, isN_ne, isN_in, isN_notIn, cmp_int, add_int, sub_int, mod_int, fdiv_int, mul_int, mul_lst, add_lst, add_refL, app_at, join_at, isStr_str, add_tup, add_str, int_bl, int_int, sl_tup, sl_lst, sl_str, pow_int, neg_int, ix_tup, ix_lst, ix_ref, ix_scr, Res.bind_ok, Res.bind_bad, Res.bind_exc, List.getElem?_cons_zero, List.getElem?_cons_succ, List.getElem?_nil, List.map_cons, List.map_nil, List.cons_append, List.nil_append, List.append_nil, List.length_cons, List.length_nil, List.set_cons_zero, List.set_cons_succ, Option.map_some, Option.map_none, Option.isSome_some, List.replicate_succ, List.replicate_zero, if_true, if_false, reduceIte, Nat.reduceAdd, Nat.reduceSub, Nat.reduceLeDiff, Nat.reduceEqDiff, Nat.reduceLT, Bool.false_eq_true, and_self, and_true, true_and, List.drop_succ_cons, List.drop_zero, List.take_succ_cons, List.take_zero, Nat.zero_add, Nat.add_zero, Bool.not_true, Bool.not_false, Nat.sub_self, Nat.le_refl, Int.reduceLT, Int.reduceNeg, Nat.reducePow, Int.reducePow, Int.reduceToNat, Int.reduceAdd, Int.reduceSub, Int.reduceLE, Int.cast_ofNat_Int, Int.reduceBEq, List.flatten_cons, List.flatten_nil, Nat.reduceMul, Nat.one_mul, Nat.mul_one, Nat.mul_zero, Nat.zero_le, Int.reduceMul, z1, z2, z3, z5, z9, z16, z25, z31, y25, l0, l1, l3, n0, g1, e]
theorem small_ok : ((List.range 100).map fun k : Nat => D.int (k : Int)).all (shB 30 0) = true := by decide +kernel
theorem sh_small {a : Int} (h0 : 0 ≤ a) (h1 : a < 100) : Sh 30 0 (.int a) := by
  obtain ⟨m, rfl⟩ := Int.eq_ofNat_of_zero_le h0
  exact sh_in small_ok (List.mem_map.mpr ⟨m, List.mem_range.mpr (by omega), rfl⟩)
theorem sh_great : Sh 30 0 (.int 100000000000000000000) := sh_of (by decide +kernel)
theorem strs_in {xs : List D} {v : D} (h : (xs.all fun x => match x with | .str z => smB 8 z | _ => false) = true) (hv : v ∈ xs) : ∃ z, v = .str z ∧ Sm 8 z := by
  have := List.all_eq_true.mp h v hv
  cases v with
  | str z => exact ⟨z, rfl, sm_of this⟩
  | _ => cases this
theorem value_of (n : Nat) (h : Hd) (r : RngAt h n) (qs : List Str) (hl : qs.length ≤ 10) (hs : ∀ q ∈ qs, Sm 8 q) : ∃ v h', F__law_value [.ref n, .tup (qs.map .str)] h = .ok v h' ∧ Stp n h h' ∧ Sh 10000 5 v := by
  obtain ⟨x, h1, e1, s1, p1, q1⟩ := draw n h r 5 (by decide) (by decide)
  have z0 : 0 ≤ sizeLine := Nat.zero_le _
  have z1 : 1 ≤ sizeLine := len_le (by decide)
  have z3 : 3 ≤ sizeLine := len_le (by decide)
  have z6 : 6 ≤ sizeLine := len_le (by decide)
  have z8 : 8 ≤ sizeLine := len_le (by decide)
  by_cases h0 : x = 0
  · subst h0
    obtain ⟨v, h2, e2, s2, k⟩ := odd_of n h1 s1.rng
    refine ⟨v, h2, ?_, s1.trans s2, k.mono (by decide) (by decide)⟩
    simp only [F__law_value, m__law_value, mc_at, mvar_at, mnil_at, mcons_at, mop1_at, mop2_at, mtup_at, mlst_at, mfun_at, mand_at, mor_at, mnot_at, mandT_at, morT_at, mnotT_at, mtru_at, mbl_at, mite_at, mchain_at, mcall_at, mcallN_at, mmeth_at, msl_at, mpart0, mpart1, mdic0_at, iseq_at, irng_at, mcomp_at, fin_none, fin_v, fin_newF, fin_newT, resM_some, resM_none, isLst_ref, lstOf_ref, lstOf_lst, seqOf_tup, seqOf_lst, seqOf_ref, seqOf_scr, truth_bl, ofE_at, ofT_at, sPass_at, sExpr_at, sRet_at, sRetN_at, sAsg_at, sIf_at, sSeq_at, sFor_at, forLoop_nil, forLoop_cons, gname_at, gtup_at, go_nil, go_cons, gstar_at, gsub_at, runB_at, startE_at, wipeE_nil, wipeE_cons, isi_at, len_at, all_lst, tuple_at, list_at, isN_eq, isN_ne, isN_in, isN_notIn, cmp_int, add_int, sub_int, mod_int, fdiv_int, mul_int, mul_lst, add_lst, add_refL, app_at, join_at, isStr_str, add_tup, add_str, int_bl, int_int, sl_tup, sl_lst, sl_str, pow_int, neg_int, ix_tup, ix_lst, ix_ref, ix_scr, Res.bind_ok, Res.bind_bad, Res.bind_exc, List.getElem?_cons_zero, List.getElem?_cons_succ, List.getElem?_nil, List.map_cons, List.map_nil, List.cons_append, List.nil_append, List.append_nil, List.length_cons, List.length_nil, List.set_cons_zero, List.set_cons_succ, Option.map_some, Option.map_none, Option.isSome_some, List.replicate_succ, List.replicate_zero, if_true, if_false, reduceIte, Nat.reduceAdd, Nat.reduceSub, Nat.reduceLeDiff, Nat.reduceEqDiff, Nat.reduceLT, Bool.false_eq_true, and_self, and_true, true_and, List.drop_succ_cons, List.drop_zero, List.take_succ_cons, List.take_zero, Nat.zero_add, Nat.add_zero, Bool.not_true, Bool.not_false, Nat.sub_self, Nat.le_refl, Int.reduceLT, Int.reduceNeg, Nat.reducePow, Int.reducePow, Int.reduceToNat, Int.reduceAdd, Int.reduceSub, Int.reduceLE, Int.cast_ofNat_Int, Int.reduceBEq, List.flatten_cons, List.flatten_nil, Nat.reduceMul, Nat.one_mul, Nat.mul_one, Nat.mul_zero, Nat.zero_le, Int.reduceMul, e1, e2, eqv]
  have b0 : (x == 0) = false := beq_eq_false_iff_ne.mpr h0
  by_cases h11 : x = 1
  · subst h11
    obtain ⟨v, h2, e2, s2, k⟩ := text_of n h1 s1.rng
    refine ⟨.str v, h2, ?_, s1.trans s2, k.sh.mono (by decide) (by decide)⟩
    simp only [F__law_value, m__law_value, mc_at, mvar_at, mnil_at, mcons_at, mop1_at, mop2_at, mtup_at, mlst_at, mfun_at, mand_at, mor_at, mnot_at, mandT_at, morT_at, mnotT_at, mtru_at, mbl_at, mite_at, mchain_at, mcall_at, mcallN_at, mmeth_at, msl_at, mpart0, mpart1, mdic0_at, iseq_at, irng_at, mcomp_at, fin_none, fin_v, fin_newF, fin_newT, resM_some, resM_none, isLst_ref, lstOf_ref, lstOf_lst, seqOf_tup, seqOf_lst, seqOf_ref, seqOf_scr, truth_bl, ofE_at, ofT_at, sPass_at, sExpr_at, sRet_at, sRetN_at, sAsg_at, sIf_at, sSeq_at, sFor_at, forLoop_nil, forLoop_cons, gname_at, gtup_at, go_nil, go_cons, gstar_at, gsub_at, runB_at, startE_at, wipeE_nil, wipeE_cons, isi_at, len_at, all_lst, tuple_at, list_at, isN_eq, isN_ne, isN_in, isN_notIn, cmp_int, add_int, sub_int, mod_int, fdiv_int, mul_int, mul_lst, add_lst, add_refL, app_at, join_at, isStr_str, add_tup, add_str, int_bl, int_int, sl_tup, sl_lst, sl_str, pow_int, neg_int, ix_tup, ix_lst, ix_ref, ix_scr, Res.bind_ok, Res.bind_bad, Res.bind_exc, List.getElem?_cons_zero, List.getElem?_cons_succ, List.getElem?_nil, List.map_cons, List.map_nil, List.cons_append, List.nil_append, List.append_nil, List.length_cons, List.length_nil, List.set_cons_zero, List.set_cons_succ, Option.map_some, Option.map_none, Option.isSome_some, List.replicate_succ, List.replicate_zero, if_true, if_false, reduceIte, Nat.reduceAdd, Nat.reduceSub, Nat.reduceLeDiff, Nat.reduceEqDiff, Nat.reduceLT, Bool.false_eq_true, and_self, and_true, true_and, List.drop_succ_cons, List.drop_zero, List.take_succ_cons, List.take_zero, Nat.zero_add, Nat.add_zero, Bool.not_true, Bool.not_false, Nat.sub_self, Nat.le_refl, Int.reduceLT, Int.reduceNeg, Nat.reducePow, Int.reducePow, Int.reduceToNat, Int.reduceAdd, Int.reduceSub, Int.reduceLE, Int.cast_ofNat_Int, Int.reduceBEq, List.flatten_cons, List.flatten_nil, Nat.reduceMul, Nat.one_mul, Nat.mul_one, Nat.mul_zero, Nat.zero_le, Int.reduceMul, e1, e2, eqv]
  have b1 : (x == 1) = false := beq_eq_false_iff_ne.mpr h11
  by_cases h12 : x = 2
  · subst h12
    obtain ⟨y, h2, e2, s2, p2, q2⟩ := draw n h1 s1.rng 5 (by decide) (by decide)
    obtain ⟨m, rfl⟩ := Int.eq_ofNat_of_zero_le p2
    have g1 : (10 : Int).natAbs < 18446744073709551616 := by decide
    obtain ⟨ys, h3, e3, s3, P3, l3⟩ := comp_st (i := 8) (env := [some (.ref n), some (.tup (qs.map .str)), some (.int 2), none, none, none, none, none, none, none])
      (elt := mlst false (mcons (mcall F__law_draw 2 [] (mcons (mvar 0) (mcons (mc (.int 3)) mnil))) (mcons (mcall F__law_draw 2 [] (mcons (mvar 0) (mcons (mc (.int 99)) mnil))) (mcons (mop2 false oPow (mc (.int 10)) (mc (.int 20))) mnil))))
      (J := fun h' => Stp n h2 h') (P := fun y => ∃ a b, y = .lst [.int a, .int b, .int 100000000000000000000] ∧ Sh 30 0 (.int a) ∧ Sh 30 0 (.int b))
      (xs := (List.range m).map fun k : Nat => D.int (k : Int)) (acc := []) (h := h2) (fun x _ h4 s4 => by
        obtain ⟨a, h5, e5, s5, p5, q5⟩ := draw n h4 s4.rng 3 (by decide) (by decide)
        obtain ⟨b, h6, e6, s6, p6, q6⟩ := draw n h5 s5.rng 99 (by decide) (by decide)
        refine ⟨_, h6, ?_, (s4.trans s5).trans s6, a, b, rfl, sh_small p5 (by omega), sh_small p6 (by omega)⟩
        simp only [mc_at, mvar_at, mnil_at, mcons_at, mop1_at, mop2_at, mtup_at, mlst_at, mfun_at, mand_at, mor_at, mnot_at, mandT_at, morT_at, mnotT_at, mtru_at, mbl_at, mite_at, mchain_at, mcall_at, mcallN_at, mmeth_at, msl_at, mpart0, mpart1, mdic0_at, iseq_at, irng_at, mcomp_at, fin_none, fin_v, fin_newF, fin_newT, resM_some, resM_none, isLst_ref, lstOf_ref, lstOf_lst, seqOf_tup, seqOf_lst, seqOf_ref, seqOf_scr, truth_bl, ofE_at, ofT_at, sPass_at, sExpr_at, sRet_at, sRetN_at, sAsg_at, sIf_at, sSeq_at, sFor_at, forLoop_nil, forLoop_cons, gname_at, gtup_at, go_nil, go_cons, gstar_at, gsub_at, runB_at, startE_at, wipeE_nil, wipeE_cons, isi_at, len_at, all_lst, tuple_at, list_at, isN_eq, isN_ne, isN_in, isN_notIn, cmp_int, add_int, sub_int, mod_int, fdiv_int, mul_int, mul_lst, add_lst, add_refL, app_at, join_at, isStr_str, add_tup, add_str, int_bl, int_int, sl_tup, sl_lst, sl_str, pow_int, neg_int, ix_tup, ix_lst, ix_ref, ix_scr, Res.bind_ok, Res.bind_bad, Res.bind_exc, List.getElem?_cons_zero, List.getElem?_cons_succ, List.getElem?_nil, List.map_cons, List.map_nil, List.cons_append, List.nil_append, List.append_nil, List.length_cons, List.length_nil, List.set_cons_zero, List.set_cons_succ, Option.map_some, Option.map_none, Option.isSome_some, List.replicate_succ, List.replicate_zero, if_true, if_false, reduceIte, Nat.reduceAdd, Nat.reduceSub, Nat.reduceLeDiff, Nat.reduceEqDiff, Nat.reduceLT, Bool.false_eq_true, and_self, and_true, true_and, List.drop_succ_cons, List.drop_zero, List.take_succ_cons, List.take_zero, Nat.zero_add, Nat.add_zero, Bool.not_true, Bool.not_false, Nat.sub_self, Nat.le_refl, Int.reduceLT, Int.reduceNeg, Nat.reducePow, Int.reducePow, Int.reduceToNat, Int.reduceAdd, Int.reduceSub, Int.reduceLE, Int.cast_ofNat_Int, Int.reduceBEq, List.flatten_cons, List.flatten_nil, Nat.reduceMul, Nat.one_mul, Nat.mul_one, Nat.mul_zero, Nat.zero_le, Int.reduceMul, e5, e6, g1, z3]) (Stp.refl s2.rng)
    rw [List.length_map, List.length_range] at l3
    obtain ⟨us, h4, e4, s4, P4, l4⟩ := comp_st (i := 9) (env := [some (.ref n), some (.tup (qs.map .str)), some (.int 2), some (.lst ys), none, none, none, none, none, none])
      (elt := mop2 false oIx (mvar 9) (mcall F__law_draw 2 [] (mcons (mvar 0) (mcons (mc (.int 3)) mnil)))) (J := fun h' => Stp n h3 h') (P := fun y => Sh 30 0 y)
      (xs := ys) (acc := []) (h := h3) (fun x hx h5 s5 => by
        obtain ⟨a, b, rfl, ka, kb⟩ := P3 x hx
        obtain ⟨c, h6, e6, s6, p6, q6⟩ := draw n h5 s5.rng 3 (by decide) (by decide)
        obtain ⟨w, ew, mw⟩ := at_in (xs := [D.int a, D.int b, D.int 100000000000000000000]) p6 q6
        refine ⟨w, h6, ?_, s5.trans s6, ?_⟩
        · simp only [mc_at, mvar_at, mnil_at, mcons_at, mop1_at, mop2_at, mtup_at, mlst_at, mfun_at, mand_at, mor_at, mnot_at, mandT_at, morT_at, mnotT_at, mtru_at, mbl_at, mite_at, mchain_at, mcall_at, mcallN_at, mmeth_at, msl_at, mpart0, mpart1, mdic0_at, iseq_at, irng_at, mcomp_at, fin_none, fin_v, fin_newF, fin_newT, resM_some, resM_none, isLst_ref, lstOf_ref, lstOf_lst, seqOf_tup, seqOf_lst, seqOf_ref, seqOf_scr, truth_bl, ofE_at, ofT_at, sPass_at, sExpr_at, sRet_at, sRetN_at, sAsg_at, sIf_at, sSeq_at, sFor_at, forLoop_nil, forLoop_cons, gname_at, gtup_at, go_nil, go_cons, gstar_at, gsub_at, runB_at, startE_at, wipeE_nil, wipeE_cons, isi_at, len_at, all_lst, tuple_at, list_at, isN_eq, isN_ne, isN_in, isN_notIn, cmp_int, add_int, sub_int, mod_int, fdiv_int, mul_int, mul_lst, add_lst, add_refL, app_at, join_at, isStr_str, add_tup, add_str, int_bl, int_int, sl_tup, sl_lst, sl_str, pow_int, neg_int, ix_tup, ix_lst, ix_ref, ix_scr, Res.bind_ok, Res.bind_bad, Res.bind_exc, List.getElem?_cons_zero, List.getElem?_cons_succ, List.getElem?_nil, List.map_cons, List.map_nil, List.cons_append, List.nil_append, List.append_nil, List.length_cons, List.length_nil, List.set_cons_zero, List.set_cons_succ, Option.map_some, Option.map_none, Option.isSome_some, List.replicate_succ, List.replicate_zero, if_true, if_false, reduceIte, Nat.reduceAdd, Nat.reduceSub, Nat.reduceLeDiff, Nat.reduceEqDiff, Nat.reduceLT, Bool.false_eq_true, and_self, and_true, true_and, List.drop_succ_cons, List.drop_zero, List.take_succ_cons, List.take_zero, Nat.zero_add, Nat.add_zero, Bool.not_true, Bool.not_false, Nat.sub_self, Nat.le_refl, Int.reduceLT, Int.reduceNeg, Nat.reducePow, Int.reducePow, Int.reduceToNat, Int.reduceAdd, Int.reduceSub, Int.reduceLE, Int.cast_ofNat_Int, Int.reduceBEq, List.flatten_cons, List.flatten_nil, Nat.reduceMul, Nat.one_mul, Nat.mul_one, Nat.mul_zero, Nat.zero_le, Int.reduceMul, e6, ew]
        · simp only [List.mem_cons, List.not_mem_nil, or_false] at mw
          rcases mw with rfl | rfl | rfl
          · exact ka
          · exact kb
          · exact sh_great) (Stp.refl s3.rng)
    refine ⟨.tup us, h4, ?_, ((s1.trans s2).trans s3).trans s4, (Sh.tup (n := 5) P4 (by omega)).mono (by decide) (by decide)⟩
    simp only [List.nil_append] at e3 e4
    simp only [F__law_value, m__law_value, mc_at, mvar_at, mnil_at, mcons_at, mop1_at, mop2_at, mtup_at, mlst_at, mfun_at, mand_at, mor_at, mnot_at, mandT_at, morT_at, mnotT_at, mtru_at, mbl_at, mite_at, mchain_at, mcall_at, mcallN_at, mmeth_at, msl_at, mpart0, mpart1, mdic0_at, iseq_at, irng_at, mcomp_at, fin_none, fin_v, fin_newF, fin_newT, resM_some, resM_none, isLst_ref, lstOf_ref, lstOf_lst, seqOf_tup, seqOf_lst, seqOf_ref, seqOf_scr, truth_bl, ofE_at, ofT_at, sPass_at, sExpr_at, sRet_at, sRetN_at, sAsg_at, sIf_at, sSeq_at, sFor_at, forLoop_nil, forLoop_cons, gname_at, gtup_at, go_nil, go_cons, gstar_at, gsub_at, runB_at, startE_at, wipeE_nil, wipeE_cons, isi_at, len_at, all_lst, tuple_at, list_at, isN_eq, isN_ne, isN_in, isN_notIn, cmp_int, add_int, sub_int, mod_int, fdiv_int, mul_int, mul_lst, add_lst, add_refL, app_at, join_at, isStr_str, add_tup, add_str, int_bl, int_int, sl_tup, sl_lst, sl_str, pow_int, neg_int, ix_tup, ix_lst, ix_ref, ix_scr, Res.bind_ok, Res.bind_bad, Res.bind_exc, List.getElem?_cons_zero, List.getElem?_cons_succ, List.getElem?_nil, List.map_cons, List.map_nil, List.cons_append, List.nil_append, List.append_nil, List.length_cons, List.length_nil, List.set_cons_zero, List.set_cons_succ, Option.map_some, Option.map_none, Option.isSome_some, List.replicate_succ, List.replicate_zero, if_true, if_false, reduceIte, Nat.reduceAdd, Nat.reduceSub, Nat.reduceLeDiff, Nat.reduceEqDiff, Nat.reduceLT, Bool.false_eq_true, and_self, and_true, true_and, List.drop_succ_cons, List.drop_zero, List.take_succ_cons, List.take_zero, Nat.zero_add, Nat.add_zero, Bool.not_true, Bool.not_false, Nat.sub_self, Nat.le_refl, Int.reduceLT, Int.reduceNeg, Nat.reducePow, Int.reducePow, Int.reduceToNat, Int.reduceAdd, Int.reduceSub, Int.reduceLE, Int.cast_ofNat_Int, Int.reduceBEq, List.flatten_cons, List.flatten_nil, Nat.reduceMul, Nat.one_mul, Nat.mul_one, Nat.mul_zero, Nat.zero_le, Int.reduceMul, e1, e2, eqv, range_ok (n := m) (by omega), e3, itemsOf, e4]
  have b2 : (x == 2) = false := beq_eq_false_iff_ne.mpr h12
  obtain ⟨st, h2, e2, s2, m2⟩ := choice_of n h1 s1.rng (d := .lst [.str "root", .str "here", .str "there", .str "root", .str "here", .str "there", .str "rooted", .str "a"]) (.inl rfl) (by decide) (by decide)
  obtain ⟨st, rfl, k2⟩ := strs_in (by decide +kernel) m2
  obtain ⟨y, h3, e3, s3, p3, q3⟩ := draw n h2 s2.rng 6 (by decide) (by decide)
  obtain ⟨mm, em, mmm⟩ := at_in (xs := [D.int 0, D.int 1, D.int 2, D.int 3, D.int 6, D.int 7]) p3 q3
  obtain ⟨m, rfl, hm⟩ : ∃ m : Nat, mm = .int (m : Int) ∧ m ≤ 7 := by
    simp only [List.mem_cons, List.not_mem_nil, or_false] at mmm
    rcases mmm with rfl | rfl | rfl | rfl | rfl | rfl
    · exact ⟨0, rfl, by decide⟩
    · exact ⟨1, rfl, by decide⟩
    · exact ⟨2, rfl, by decide⟩
    · exact ⟨3, rfl, by decide⟩
    · exact ⟨6, rfl, by decide⟩
    · exact ⟨7, rfl, by decide⟩
  have zq : qs.length + 3 ≤ sizeLine := len_le (by omega)
  have wordsIn : ∀ v ∈ qs.map D.str ++ [.str "a", .str "bc", .str "d"], ∃ z, v = .str z ∧ Sm 8 z := fun v hv => by
    rcases List.mem_append.mp hv with hv | hv
    · obtain ⟨q, hq, rfl⟩ := List.mem_map.mp hv
      exact ⟨q, rfl, hs q hq⟩
    · exact strs_in (by decide +kernel) hv
  obtain ⟨ws, h4, e4, s4, P4, l4⟩ := comp_st (i := 8) (env := [some (.ref n), some (.tup (qs.map .str)), some (.int x), none, some (.str st), some (.int (m : Int)), none, none, none, none])
    (elt := mcall F__law_choice 2 [] (mcons (mvar 0) (mcons (mop2 false oAdd (mfun false fList (mcons (mvar 1) mnil)) (mlst false (mcons (mc (.str "a")) (mcons (mc (.str "bc")) (mcons (mc (.str "d")) mnil))))) mnil)))
    (J := fun h' => Stp n h3 h') (P := fun y => ∃ z, y = .str z ∧ Sm 8 z) (xs := (List.range m).map fun k : Nat => D.int (k : Int)) (acc := []) (h := h3) (fun x _ h5 s5 => by
      obtain ⟨w, h6, e6, s6, m6⟩ := choice_of n h5 s5.rng (d := .lst (qs.map D.str ++ [.str "a", .str "bc", .str "d"])) (.inl rfl) (by simp) (by simp; omega)
      refine ⟨w, h6, ?_, s5.trans s6, wordsIn w m6⟩
      simp only [mc_at, mvar_at, mnil_at, mcons_at, mop1_at, mop2_at, mtup_at, mlst_at, mfun_at, mand_at, mor_at, mnot_at, mandT_at, morT_at, mnotT_at, mtru_at, mbl_at, mite_at, mchain_at, mcall_at, mcallN_at, mmeth_at, msl_at, mpart0, mpart1, mdic0_at, iseq_at, irng_at, mcomp_at, fin_none, fin_v, fin_newF, fin_newT, resM_some, resM_none, isLst_ref, lstOf_ref, lstOf_lst, seqOf_tup, seqOf_lst, seqOf_ref, seqOf_scr, truth_bl, ofE_at, ofT_at, sPass_at, sExpr_at, sRet_at, sRetN_at, sAsg_at, sIf_at, sSeq_at, sFor_at, forLoop_nil, forLoop_cons, gname_at, gtup_at, go_nil, go_cons, gstar_at, gsub_at, runB_at, startE_at, wipeE_nil, wipeE_cons, isi_at, len_at, all_lst, tuple_at, list_at, isN_eq, isN_ne, isN_in, isN_notIn, cmp_int, add_int, sub_int, mod_int, fdiv_int, mul_int, mul_lst, add_lst, add_refL, app_at, join_at, isStr_str, add_tup, add_str, int_bl, int_int, sl_tup, sl_lst, sl_str, pow_int, neg_int, ix_tup, ix_lst, ix_ref, ix_scr, Res.bind_ok, Res.bind_bad, Res.bind_exc, List.getElem?_cons_zero, List.getElem?_cons_succ, List.getElem?_nil, List.map_cons, List.map_nil, List.cons_append, List.nil_append, List.append_nil, List.length_cons, List.length_nil, List.set_cons_zero, List.set_cons_succ, Option.map_some, Option.map_none, Option.isSome_some, List.replicate_succ, List.replicate_zero, if_true, if_false, reduceIte, Nat.reduceAdd, Nat.reduceSub, Nat.reduceLeDiff, Nat.reduceEqDiff, Nat.reduceLT, Bool.false_eq_true, and_self, and_true, true_and, List.drop_succ_cons, List.drop_zero, List.take_succ_cons, List.take_zero, Nat.zero_add, Nat.add_zero, Bool.not_true, Bool.not_false, Nat.sub_self, Nat.le_refl, Int.reduceLT, Int.reduceNeg, Nat.reducePow, Int.reducePow, Int.reduceToNat, Int.reduceAdd, Int.reduceSub, Int.reduceLE, Int.cast_ofNat_Int, Int.reduceBEq, List.flatten_cons, List.flatten_nil, Nat.reduceMul, Nat.one_mul, Nat.mul_one, Nat.mul_zero, Nat.zero_le, Int.reduceMul, z3, List.length_map, zq, e6]) (Stp.refl s3.rng)
  rw [List.length_map, List.length_range] at l4
  obtain ⟨t, h5, e5, s5, k5⟩ := text_of n h4 s4.rng
  obtain ⟨f, h6, e6, s6, p6, q6⟩ := draw n h5 s5.rng 2 (by decide) (by decide)
  obtain ⟨f, rfl⟩ := Int.eq_ofNat_of_zero_le p6
  have hf : f ≤ 1 := by omega
  have rl : (List.replicate f [D.str t]).flatten.length = f := by rw [List.length_flatten, List.map_replicate, List.sum_replicate_nat]; simp
  have f2 : ws.length + (List.replicate f [D.str t]).flatten.length ≤ sizeLine := len_le (by rw [rl]; omega)
  have f3 : 1 + (ws ++ (List.replicate f [D.str t]).flatten).length ≤ sizeLine := len_le (by rw [List.length_append, rl]; omega)
  have k2' : Sh 212 0 (.str st) := (k2.mono (k := 21) (by decide)).sh
  have all_ : ∀ v ∈ [D.str st] ++ (ws ++ (List.replicate f [D.str t]).flatten), Sh 212 0 v := fun v hv => by
    rcases List.mem_append.mp hv with hv | hv
    · rw [List.mem_singleton] at hv; rw [hv]; exact k2'
    · rcases List.mem_append.mp hv with hv | hv
      · obtain ⟨z, rfl, kz⟩ := P4 v hv
        exact (kz.mono (k := 21) (by decide)).sh
      · obtain ⟨l, hl1, hv⟩ := List.mem_flatten.mp hv
        rw [(List.mem_replicate.mp hl1).2, List.mem_singleton] at hv
        rw [hv]; exact k5.sh
  have len_ : ([D.str st] ++ (ws ++ (List.replicate f [D.str t]).flatten)).length ≤ 9 := by
    rw [List.length_append, List.length_append, rl]; simp only [List.length_cons, List.length_nil]; omega
  have kT := (Sh.tup all_ len_).mono (k' := 10000) (d' := 5) (by decide) (by decide)
  have kL := (Sh.lst all_ len_).mono (k' := 10000) (d' := 5) (by decide) (by decide)
  have s16 := ((((s1.trans s2).trans s3).trans s4).trans s5).trans s6
  simp only [List.nil_append] at e4
  obtain hf01 | hf01 : f = 0 ∨ f = 1 := by omega
  all_goals
    subst hf01
    simp only [mc_at, mvar_at, mnil_at, mcons_at, mop1_at, mop2_at, mtup_at, mlst_at, mfun_at, mand_at, mor_at, mnot_at, mandT_at, morT_at, mnotT_at, mtru_at, mbl_at, mite_at, mchain_at, mcall_at, mcallN_at, mmeth_at, msl_at, mpart0, mpart1, mdic0_at, iseq_at, irng_at, mcomp_at, fin_none, fin_v, fin_newF, fin_newT, resM_some, resM_none, isLst_ref, lstOf_ref, lstOf_lst, seqOf_tup, seqOf_lst, seqOf_ref, seqOf_scr, truth_bl, ofE_at, ofT_at, sPass_at, sExpr_at, sRet_at, sRetN_at, sAsg_at, sIf_at, sSeq_at, sFor_at, forLoop_nil, forLoop_cons, gname_at, gtup_at, go_nil, go_cons, gstar_at, gsub_at, runB_at, startE_at, wipeE_nil, wipeE_cons, isi_at, len_at, all_lst, tuple_at, list_at, isN_eq, isN_ne, isN_in, isN_notIn, cmp_int, add_int, sub_int, mod_int, fdiv_int, mul_int, mul_lst, add_lst, add_refL, app_at, join_at, isStr_str, add_tup, add_str, int_bl, int_int, sl_tup, sl_lst, sl_str, pow_int, neg_int, ix_tup, ix_lst, ix_ref, ix_scr, Res.bind_ok, Res.bind_bad, Res.bind_exc, List.getElem?_cons_zero, List.getElem?_cons_succ, List.getElem?_nil, List.map_cons, List.map_nil, List.cons_append, List.nil_append, List.append_nil, List.length_cons, List.length_nil, List.set_cons_zero, List.set_cons_succ, Option.map_some, Option.map_none, Option.isSome_some, List.replicate_succ, List.replicate_zero, if_true, if_false, reduceIte, Nat.reduceAdd, Nat.reduceSub, Nat.reduceLeDiff, Nat.reduceEqDiff, Nat.reduceLT, Bool.false_eq_true, and_self, and_true, true_and, List.drop_succ_cons, List.drop_zero, List.take_succ_cons, List.take_zero, Nat.zero_add, Nat.add_zero, Bool.not_true, Bool.not_false, Nat.sub_self, Nat.le_refl, Int.reduceLT, Int.reduceNeg, Nat.reducePow, Int.reducePow, Int.reduceToNat, Int.reduceAdd, Int.reduceSub, Int.reduceLE, Int.cast_ofNat_Int, Int.reduceBEq, List.flatten_cons, List.flatten_nil, Nat.reduceMul, Nat.one_mul, Nat.mul_one, Nat.mul_zero, Nat.zero_le, Int.reduceMul] at f2 f3 kT kL
    by_cases h13 : x = 3
    · subst h13
      obtain ⟨g, h7, e7, s7, p7, q7⟩ := draw n h6 s6.rng 4 (by decide) (by decide)
      by_cases hg : g = 0
      · subst hg
        refine ⟨_, h7, ?_, s16.trans s7, kL⟩
        simp only [F__law_value, m__law_value, mc_at, mvar_at, mnil_at, mcons_at, mop1_at, mop2_at, mtup_at, mlst_at, mfun_at, mand_at, mor_at, mnot_at, mandT_at, morT_at, mnotT_at, mtru_at, mbl_at, mite_at, mchain_at, mcall_at, mcallN_at, mmeth_at, msl_at, mpart0, mpart1, mdic0_at, iseq_at, irng_at, mcomp_at, fin_none, fin_v, fin_newF, fin_newT, resM_some, resM_none, isLst_ref, lstOf_ref, lstOf_lst, seqOf_tup, seqOf_lst, seqOf_ref, seqOf_scr, truth_bl, ofE_at, ofT_at, sPass_at, sExpr_at, sRet_at, sRetN_at, sAsg_at, sIf_at, sSeq_at, sFor_at, forLoop_nil, forLoop_cons, gname_at, gtup_at, go_nil, go_cons, gstar_at, gsub_at, runB_at, startE_at, wipeE_nil, wipeE_cons, isi_at, len_at, all_lst, tuple_at, list_at, isN_eq, isN_ne, isN_in, isN_notIn, cmp_int, add_int, sub_int, mod_int, fdiv_int, mul_int, mul_lst, add_lst, add_refL, app_at, join_at, isStr_str, add_tup, add_str, int_bl, int_int, sl_tup, sl_lst, sl_str, pow_int, neg_int, ix_tup, ix_lst, ix_ref, ix_scr, Res.bind_ok, Res.bind_bad, Res.bind_exc, List.getElem?_cons_zero, List.getElem?_cons_succ, List.getElem?_nil, List.map_cons, List.map_nil, List.cons_append, List.nil_append, List.append_nil, List.length_cons, List.length_nil, List.set_cons_zero, List.set_cons_succ, Option.map_some, Option.map_none, Option.isSome_some, List.replicate_succ, List.replicate_zero, if_true, if_false, reduceIte, Nat.reduceAdd, Nat.reduceSub, Nat.reduceLeDiff, Nat.reduceEqDiff, Nat.reduceLT, Bool.false_eq_true, and_self, and_true, true_and, List.drop_succ_cons, List.drop_zero, List.take_succ_cons, List.take_zero, Nat.zero_add, Nat.add_zero, Bool.not_true, Bool.not_false, Nat.sub_self, Nat.le_refl, Int.reduceLT, Int.reduceNeg, Nat.reducePow, Int.reducePow, Int.reduceToNat, Int.reduceAdd, Int.reduceSub, Int.reduceLE, Int.cast_ofNat_Int, Int.reduceBEq, List.flatten_cons, List.flatten_nil, Nat.reduceMul, Nat.one_mul, Nat.mul_one, Nat.mul_zero, Nat.zero_le, Int.reduceMul, e1, eqv, z8, e2, z6, e3, em, range_ok (n := m) (by omega), e4, z1, e5, e6, f2, f3, e7]
      · have bg : (g == 0) = false := beq_eq_false_iff_ne.mpr hg
        refine ⟨_, h7, ?_, s16.trans s7, kT⟩
        simp only [F__law_value, m__law_value, mc_at, mvar_at, mnil_at, mcons_at, mop1_at, mop2_at, mtup_at, mlst_at, mfun_at, mand_at, mor_at, mnot_at, mandT_at, morT_at, mnotT_at, mtru_at, mbl_at, mite_at, mchain_at, mcall_at, mcallN_at, mmeth_at, msl_at, mpart0, mpart1, mdic0_at, iseq_at, irng_at, mcomp_at, fin_none, fin_v, fin_newF, fin_newT, resM_some, resM_none, isLst_ref, lstOf_ref, lstOf_lst, seqOf_tup, seqOf_lst, seqOf_ref, seqOf_scr, truth_bl, ofE_at, ofT_at, sPass_at, sExpr_at, sRet_at, sRetN_at, sAsg_at, sIf_at, sSeq_at, sFor_at, forLoop_nil, forLoop_cons, gname_at, gtup_at, go_nil, go_cons, gstar_at, gsub_at, runB_at, startE_at, wipeE_nil, wipeE_cons, isi_at, len_at, all_lst, tuple_at, list_at, isN_eq, isN_ne, isN_in, isN_notIn, cmp_int, add_int, sub_int, mod_int, fdiv_int, mul_int, mul_lst, add_lst, add_refL, app_at, join_at, isStr_str, add_tup, add_str, int_bl, int_int, sl_tup, sl_lst, sl_str, pow_int, neg_int, ix_tup, ix_lst, ix_ref, ix_scr, Res.bind_ok, Res.bind_bad, Res.bind_exc, List.getElem?_cons_zero, List.getElem?_cons_succ, List.getElem?_nil, List.map_cons, List.map_nil, List.cons_append, List.nil_append, List.append_nil, List.length_cons, List.length_nil, List.set_cons_zero, List.set_cons_succ, Option.map_some, Option.map_none, Option.isSome_some, List.replicate_succ, List.replicate_zero, if_true, if_false, reduceIte, Nat.reduceAdd, Nat.reduceSub, Nat.reduceLeDiff, Nat.reduceEqDiff, Nat.reduceLT, Bool.false_eq_true, and_self, and_true, true_and, List.drop_succ_cons, List.drop_zero, List.take_succ_cons, List.take_zero, Nat.zero_add, Nat.add_zero, Bool.not_true, Bool.not_false, Nat.sub_self, Nat.le_refl, Int.reduceLT, Int.reduceNeg, Nat.reducePow, Int.reducePow, Int.reduceToNat, Int.reduceAdd, Int.reduceSub, Int.reduceLE, Int.cast_ofNat_Int, Int.reduceBEq, List.flatten_cons, List.flatten_nil, Nat.reduceMul, Nat.one_mul, Nat.mul_one, Nat.mul_zero, Nat.zero_le, Int.reduceMul, e1, eqv, z8, e2, z6, e3, em, range_ok (n := m) (by omega), e4, z1, e5, e6, f2, f3, e7, bg]
    · have b3 : (x == 3) = false := beq_eq_false_iff_ne.mpr h13
      refine ⟨_, h6, ?_, s16, kT⟩
      simp only [F__law_value, m__law_value, mc_at, mvar_at, mnil_at, mcons_at, mop1_at, mop2_at, mtup_at, mlst_at, mfun_at, mand_at, mor_at, mnot_at, mandT_at, morT_at, mnotT_at, mtru_at, mbl_at, mite_at, mchain_at, mcall_at, mcallN_at, mmeth_at, msl_at, mpart0, mpart1, mdic0_at, iseq_at, irng_at, mcomp_at, fin_none, fin_v, fin_newF, fin_newT, resM_some, resM_none, isLst_ref, lstOf_ref, lstOf_lst, seqOf_tup, seqOf_lst, seqOf_ref, seqOf_scr, truth_bl, ofE_at, ofT_at, sPass_at, sExpr_at, sRet_at, sRetN_at, sAsg_at, sIf_at, sSeq_at, sFor_at, forLoop_nil, forLoop_cons, gname_at, gtup_at, go_nil, go_cons, gstar_at, gsub_at, runB_at, startE_at, wipeE_nil, wipeE_cons, isi_at, len_at, all_lst, tuple_at, list_at, isN_eq, isN_ne, isN_in, isN_notIn, cmp_int, add_int, sub_int, mod_int, fdiv_int, mul_int, mul_lst, add_lst, add_refL, app_at, join_at, isStr_str, add_tup, add_str, int_bl, int_int, sl_tup, sl_lst, sl_str, pow_int, neg_int, ix_tup, ix_lst, ix_ref, ix_scr, Res.bind_ok, Res.bind_bad, Res.bind_exc, List.getElem?_cons_zero, List.getElem?_cons_succ, List.getElem?_nil, List.map_cons, List.map_nil, List.cons_append, List.nil_append, List.append_nil, List.length_cons, List.length_nil, List.set_cons_zero, List.set_cons_succ, Option.map_some, Option.map_none, Option.isSome_some, List.replicate_succ, List.replicate_zero, if_true, if_false, reduceIte, Nat.reduceAdd, Nat.reduceSub, Nat.reduceLeDiff, Nat.reduceEqDiff, Nat.reduceLT, Bool.false_eq_true, and_self, and_true, true_and, List.drop_succ_cons, List.drop_zero, List.take_succ_cons, List.take_zero, Nat.zero_add, Nat.add_zero, Bool.not_true, Bool.not_false, Nat.sub_self, Nat.le_refl, Int.reduceLT, Int.reduceNeg, Nat.reducePow, Int.reducePow, Int.reduceToNat, Int.reduceAdd, Int.reduceSub, Int.reduceLE, Int.cast_ofNat_Int, Int.reduceBEq, List.flatten_cons, List.flatten_nil, Nat.reduceMul, Nat.one_mul, Nat.mul_one, Nat.mul_zero, Nat.zero_le, Int.reduceMul, e1, eqv, b0, b1, b2, b3, z8, e2, z6, e3, em, range_ok (n := m) (by omega), e4, z1, e5, e6, f2, f3]
theorem strs_list {P : Str → Prop} : ∀ {l : List D}, (∀ y ∈ l, ∃ z, y = .str z ∧ P z) → ∃ zs : List Str, l = zs.map D.str ∧ (∀ z ∈ zs, P z) ∧ zs.length = l.length
  | [], _ => ⟨[], rfl, (fun _ z => nomatch z), rfl⟩
  | y :: l, h => by
    obtain ⟨z, rfl, hz⟩ := h y List.mem_cons_self
    obtain ⟨zs, rfl, hp, hl⟩ := strs_list fun y hy => h y (List.mem_cons_of_mem _ hy)
    refine ⟨z :: zs, rfl, fun x hx => ?_, by simp⟩
    rcases List.mem_cons.mp hx with rfl | hx
    · exact hz
    · exact hp x hx
theorem for_st {i : Nat} {body : MS} {env : Env} {J : Hd → Prop} : ∀ {xs : List D} {o : Option D} {h : Hd}, (∀ x h, J h → ∃ h', body (env.set i (some x)) h = some (.nx, env.set i (some x), h') ∧ J h') → J h →
    ∃ o' h', forLoop (gname i) body xs (env.set i o) h = some (.nx, env.set i o', h') ∧ J h'
  | [], o, h, _, hj => ⟨o, h, rfl, hj⟩
  | x :: xs, o, h, hb, hj => by
    obtain ⟨h1, e1, j1⟩ := hb x h hj
    obtain ⟨o', h2, e2, j2⟩ := for_st (xs := xs) (o := some x) hb j1
    refine ⟨o', h2, ?_, j2⟩
    rw [forLoop_cons, gname_at]
    simp only [List.set_set]
    rw [e1]
    exact e2
theorem all_true : ∀ {ys : List D}, (∀ y ∈ ys, y = .bl true) → ∃ bs, blsOf ys = some bs ∧ bs.all id = true
  | [], _ => ⟨[], rfl, rfl⟩
  | y :: ys, h => by
    obtain rfl := h y List.mem_cons_self
    obtain ⟨bs, e, a⟩ := all_true fun y hy => h y (List.mem_cons_of_mem _ hy)
    exact ⟨true :: bs, by simp only [blsOf, e, Option.map_some], by simp only [List.all_cons, a, id, Bool.and_self]⟩
theorem right_of (n : Nat) (h : Hd) (r : RngAt h n) : ∃ h', F__law_right [.ref n] h = .ok (.bl true) h' := by
  obtain ⟨ys, h1, e1, s1, P1, l1⟩ := shuffled_of n h r (xs := [.str "A", .str "B", .str "X", .str "LONG", .str "AB", .str "ZZZZ"]) (by decide)
  obtain ⟨x, h2, e2, s2, p2, q2⟩ := draw n h1 s1.rng 4 (by decide) (by decide)
  obtain ⟨qs, eq, Pq, lq⟩ := strs_list (P := fun z => Sm 8 z ∧ madeB CAP 4 (.str z) = true) (l := cutD ys none (some x)) (fun y hy => by
    have := P1 y (List.mem_of_mem_drop (List.mem_of_mem_take hy))
    simp only [List.mem_cons, List.not_mem_nil, or_false] at this
    rcases this with rfl | rfl | rfl | rfl | rfl | rfl
    all_goals exact ⟨_, rfl, sm_of (by decide +kernel), by decide +kernel⟩)
  have hl : qs.length ≤ 10 := by
    have := cutD_len (xs := ys) (lo := none) (hi := some x)
    have l6 : ys.length = 6 := l1
    omega
  have ha : Sh 100000 5 (.tup (qs.map .str)) := (Sh.tup (k := 82) (d := 0) (n := 10) (fun v hv => by
    obtain ⟨q, hq, rfl⟩ := List.mem_map.mp hv
    exact (Pq q hq).1.sh) (by rw [List.length_map]; exact hl)).mono (by decide) (by decide)
  have hq : ∀ q ∈ qs, madeB CAP 4 (.str q) = true := fun q h => (Pq q h).2
  obtain ⟨o, h3, e3, s3⟩ := for_st (i := 3) (env := [some (.ref n), some (.lst [.str "A", .str "B", .str "X", .str "LONG", .str "AB", .str "ZZZZ"]), some (.tup (qs.map .str)), none, none])
    (body := sIf (mnotT (mtru (mcall F__law_is_right 2 [] (mcons (mcall F__law_value 2 [] (mcons (mvar 0) (mcons (mvar 2) mnil))) (mcons (mvar 2) mnil))))) (sRet (mc (.bl false))) sPass) (J := fun h' => Stp n h2 h')
    (xs := (List.range 12).map fun k : Nat => D.int (k : Int)) (o := none) (h := h2) (fun x h4 s4 => by
      obtain ⟨v, h5, e5, s5, k5⟩ := value_of n h4 s4.rng qs hl (fun q h => (Pq q h).1)
      refine ⟨h5, ?_, s4.trans s5⟩
      simp only [mc_at, mvar_at, mnil_at, mcons_at, mop1_at, mop2_at, mtup_at, mlst_at, mfun_at, mand_at, mor_at, mnot_at, mandT_at, morT_at, mnotT_at, mtru_at, mbl_at, mite_at, mchain_at, mcall_at, mcallN_at, mmeth_at, msl_at, mpart0, mpart1, mdic0_at, iseq_at, irng_at, mcomp_at, fin_none, fin_v, fin_newF, fin_newT, resM_some, resM_none, isLst_ref, lstOf_ref, lstOf_lst, seqOf_tup, seqOf_lst, seqOf_ref, seqOf_scr, truth_bl, ofE_at, ofT_at, sPass_at, sExpr_at, sRet_at, sRetN_at, sAsg_at, sIf_at, sSeq_at, sFor_at, forLoop_nil, forLoop_cons, gname_at, gtup_at, go_nil, go_cons, gstar_at, gsub_at, runB_at, startE_at, wipeE_nil, wipeE_cons, isi_at, len_at, all_lst, tuple_at, list_at, isN_eq, isN_ne, isN_in, isN_notIn, cmp_int, add_int, sub_int, mod_int, fdiv_int, mul_int, mul_lst, add_lst, add_refL, app_at, join_at, isStr_str, add_tup, add_str, int_bl, int_int, sl_tup, sl_lst, sl_str, pow_int, neg_int, ix_tup, ix_lst, ix_ref, ix_scr, Res.bind_ok, Res.bind_bad, Res.bind_exc, List.getElem?_cons_zero, List.getElem?_cons_succ, List.getElem?_nil, List.map_cons, List.map_nil, List.cons_append, List.nil_append, List.append_nil, List.length_cons, List.length_nil, List.set_cons_zero, List.set_cons_succ, Option.map_some, Option.map_none, Option.isSome_some, List.replicate_succ, List.replicate_zero, if_true, if_false, reduceIte, Nat.reduceAdd, Nat.reduceSub, Nat.reduceLeDiff, Nat.reduceEqDiff, Nat.reduceLT, Bool.false_eq_true, and_self, and_true, true_and, List.drop_succ_cons, List.drop_zero, List.take_succ_cons, List.take_zero, Nat.zero_add, Nat.add_zero, Bool.not_true, Bool.not_false, Nat.sub_self, Nat.le_refl, Int.reduceLT, Int.reduceNeg, Nat.reducePow, Int.reducePow, Int.reduceToNat, Int.reduceAdd, Int.reduceSub, Int.reduceLE, Int.cast_ofNat_Int, Int.reduceBEq, List.flatten_cons, List.flatten_nil, Nat.reduceMul, Nat.one_mul, Nat.mul_one, Nat.mul_zero, Nat.zero_le, Int.reduceMul, e5, F_right v k5 (by decide) qs hq ha]) (Stp.refl s2.rng)
  have z2 : 2 ≤ sizeLine := len_le (by decide)
  have z4 : 4 ≤ sizeLine := len_le (by decide)
  have z5 : 5 ≤ sizeLine := len_le (by decide)
  have z6 : 6 ≤ sizeLine := len_le (by decide)
  have z7 : 7 ≤ sizeLine := len_le (by decide)
  have zq : qs.length + 7 ≤ sizeLine := len_le (by omega)
  let L : List D := qs.map D.str ++ [.str "Q", .str "a", .str "", .str "abcdefgh", .str "abcdefghi", .str "ABCDE", .tup [.str "root", .str "root", .str "here", .str "there"]] ++ [.tup [.str "here", .str "num", .str "ref", .str "mod"], .tup [.str "root", .str "gap", .str "call", .str "fn"], .tup [.str "there", .str "there"], .str "macro", .str "glob"]
  have hL : ∀ v ∈ L, Sh 1000 5 v := fun v hv => by
    rcases List.mem_append.mp hv with hv | hv
    · rcases List.mem_append.mp hv with hv | hv
      · obtain ⟨q, hq, rfl⟩ := List.mem_map.mp hv
        exact (Pq q hq).1.sh.mono (by decide) (by decide)
      · exact sh_in (by decide +kernel) hv
    · exact sh_in (by decide +kernel) hv
  have loop : ∀ env0 : Env, env0[2]? = some (some (.tup (qs.map .str))) → env0.length = 5 → compLoop (gname 4) yes (mcall F__law_is_right 2 [] (mcons (mvar 4) (mcons (mvar 2) mnil))) env0 L [] h3 = some ([] ++ L.map fun _ => .bl true, h3) := fun env0 h0 h1 =>
    comp_map fun v hv => by
      have g4 : (env0.set 4 (some v))[4]? = some (some v) := List.getElem?_set_self (by omega)
      have g2 : (env0.set 4 (some v))[2]? = some (some (.tup (qs.map .str))) := by rw [List.getElem?_set_ne (by decide)]; exact h0
      simp only [mc_at, mvar_at, mnil_at, mcons_at, mop1_at, mop2_at, mtup_at, mlst_at, mfun_at, mand_at, mor_at, mnot_at, mandT_at, morT_at, mnotT_at, mtru_at, mbl_at, mite_at, mchain_at, mcall_at, mcallN_at, mmeth_at, msl_at, mpart0, mpart1, mdic0_at, iseq_at, irng_at, mcomp_at, fin_none, fin_v, fin_newF, fin_newT, resM_some, resM_none, isLst_ref, lstOf_ref, lstOf_lst, seqOf_tup, seqOf_lst, seqOf_ref, seqOf_scr, truth_bl, ofE_at, ofT_at, sPass_at, sExpr_at, sRet_at, sRetN_at, sAsg_at, sIf_at, sSeq_at, sFor_at, forLoop_nil, forLoop_cons, gname_at, gtup_at, go_nil, go_cons, gstar_at, gsub_at, runB_at, startE_at, wipeE_nil, wipeE_cons, isi_at, len_at, all_lst, tuple_at, list_at, isN_eq, isN_ne, isN_in, isN_notIn, cmp_int, add_int, sub_int, mod_int, fdiv_int, mul_int, mul_lst, add_lst, add_refL, app_at, join_at, isStr_str, add_tup, add_str, int_bl, int_int, sl_tup, sl_lst, sl_str, pow_int, neg_int, ix_tup, ix_lst, ix_ref, ix_scr, Res.bind_ok, Res.bind_bad, Res.bind_exc, List.getElem?_cons_zero, List.getElem?_cons_succ, List.getElem?_nil, List.map_cons, List.map_nil, List.cons_append, List.nil_append, List.append_nil, List.length_cons, List.length_nil, List.set_cons_zero, List.set_cons_succ, Option.map_some, Option.map_none, Option.isSome_some, List.replicate_succ, List.replicate_zero, if_true, if_false, reduceIte, Nat.reduceAdd, Nat.reduceSub, Nat.reduceLeDiff, Nat.reduceEqDiff, Nat.reduceLT, Bool.false_eq_true, and_self, and_true, true_and, List.drop_succ_cons, List.drop_zero, List.take_succ_cons, List.take_zero, Nat.zero_add, Nat.add_zero, Bool.not_true, Bool.not_false, Nat.sub_self, Nat.le_refl, Int.reduceLT, Int.reduceNeg, Nat.reducePow, Int.reducePow, Int.reduceToNat, Int.reduceAdd, Int.reduceSub, Int.reduceLE, Int.cast_ofNat_Int, Int.reduceBEq, List.flatten_cons, List.flatten_nil, Nat.reduceMul, Nat.one_mul, Nat.mul_one, Nat.mul_zero, Nat.zero_le, Int.reduceMul, g4, g2, F_right v (hL v hv) (by decide) qs hq ha]
  have bl_ : blsOf (L.map fun _ => D.bl true) = some (L.map fun _ => true) := bls_map (f := fun _ => true)
  have al_ : (L.map fun _ => true).all id = true := by rw [List.all_map]; exact List.all_eq_true.mpr fun _ _ => rfl
  refine ⟨h3, ?_⟩
  simp only [L, List.append_assoc, List.cons_append, List.nil_append] at loop bl_ al_
  simp only [mc_at, mvar_at, mnil_at, mcons_at, mop1_at, mop2_at, mtup_at, mlst_at, mfun_at, mand_at, mor_at, mnot_at, mandT_at, morT_at, mnotT_at, mtru_at, mbl_at, mite_at, mchain_at, mcall_at, mcallN_at, mmeth_at, msl_at, mpart0, mpart1, mdic0_at, iseq_at, irng_at, mcomp_at, fin_none, fin_v, fin_newF, fin_newT, resM_some, resM_none, isLst_ref, lstOf_ref, lstOf_lst, seqOf_tup, seqOf_lst, seqOf_ref, seqOf_scr, truth_bl, ofE_at, ofT_at, sPass_at, sExpr_at, sRet_at, sRetN_at, sAsg_at, sIf_at, sSeq_at, sFor_at, forLoop_nil, forLoop_cons, gname_at, gtup_at, go_nil, go_cons, gstar_at, gsub_at, runB_at, startE_at, wipeE_nil, wipeE_cons, isi_at, len_at, all_lst, tuple_at, list_at, isN_eq, isN_ne, isN_in, isN_notIn, cmp_int, add_int, sub_int, mod_int, fdiv_int, mul_int, mul_lst, add_lst, add_refL, app_at, join_at, isStr_str, add_tup, add_str, int_bl, int_int, sl_tup, sl_lst, sl_str, pow_int, neg_int, ix_tup, ix_lst, ix_ref, ix_scr, Res.bind_ok, Res.bind_bad, Res.bind_exc, List.getElem?_cons_zero, List.getElem?_cons_succ, List.getElem?_nil, List.map_cons, List.map_nil, List.cons_append, List.nil_append, List.append_nil, List.length_cons, List.length_nil, List.set_cons_zero, List.set_cons_succ, Option.map_some, Option.map_none, Option.isSome_some, List.replicate_succ, List.replicate_zero, if_true, if_false, reduceIte, Nat.reduceAdd, Nat.reduceSub, Nat.reduceLeDiff, Nat.reduceEqDiff, Nat.reduceLT, Bool.false_eq_true, and_self, and_true, true_and, List.drop_succ_cons, List.drop_zero, List.take_succ_cons, List.take_zero, Nat.zero_add, Nat.add_zero, Bool.not_true, Bool.not_false, Nat.sub_self, Nat.le_refl, Int.reduceLT, Int.reduceNeg, Nat.reducePow, Int.reducePow, Int.reduceToNat, Int.reduceAdd, Int.reduceSub, Int.reduceLE, Int.cast_ofNat_Int, Int.reduceBEq, List.flatten_cons, List.flatten_nil, Nat.reduceMul, Nat.one_mul, Nat.mul_one, Nat.mul_zero, Nat.zero_le, Int.reduceMul] at e3
  have r12 : irange1 [.int 12] = some ((List.range 12).map fun k : Nat => D.int (k : Int)) := range_ok (n := 12) (by decide)
  have zL : qs.length + 12 ≤ sizeLine := len_le (by omega)
  simp only [F__law_right, m__law_right, mc_at, mvar_at, mnil_at, mcons_at, mop1_at, mop2_at, mtup_at, mlst_at, mfun_at, mand_at, mor_at, mnot_at, mandT_at, morT_at, mnotT_at, mtru_at, mbl_at, mite_at, mchain_at, mcall_at, mcallN_at, mmeth_at, msl_at, mpart0, mpart1, mdic0_at, iseq_at, irng_at, mcomp_at, fin_none, fin_v, fin_newF, fin_newT, resM_some, resM_none, isLst_ref, lstOf_ref, lstOf_lst, seqOf_tup, seqOf_lst, seqOf_ref, seqOf_scr, truth_bl, ofE_at, ofT_at, sPass_at, sExpr_at, sRet_at, sRetN_at, sAsg_at, sIf_at, sSeq_at, sFor_at, forLoop_nil, forLoop_cons, gname_at, gtup_at, go_nil, go_cons, gstar_at, gsub_at, runB_at, startE_at, wipeE_nil, wipeE_cons, isi_at, len_at, all_lst, tuple_at, list_at, isN_eq, isN_ne, isN_in, isN_notIn, cmp_int, add_int, sub_int, mod_int, fdiv_int, mul_int, mul_lst, add_lst, add_refL, app_at, join_at, isStr_str, add_tup, add_str, int_bl, int_int, sl_tup, sl_lst, sl_str, pow_int, neg_int, ix_tup, ix_lst, ix_ref, ix_scr, Res.bind_ok, Res.bind_bad, Res.bind_exc, List.getElem?_cons_zero, List.getElem?_cons_succ, List.getElem?_nil, List.map_cons, List.map_nil, List.cons_append, List.nil_append, List.append_nil, List.length_cons, List.length_nil, List.set_cons_zero, List.set_cons_succ, Option.map_some, Option.map_none, Option.isSome_some, List.replicate_succ, List.replicate_zero, if_true, if_false, reduceIte, Nat.reduceAdd, Nat.reduceSub, Nat.reduceLeDiff, Nat.reduceEqDiff, Nat.reduceLT, Bool.false_eq_true, and_self, and_true, true_and, List.drop_succ_cons, List.drop_zero, List.take_succ_cons, List.take_zero, Nat.zero_add, Nat.add_zero, Bool.not_true, Bool.not_false, Nat.sub_self, Nat.le_refl, Int.reduceLT, Int.reduceNeg, Nat.reducePow, Int.reducePow, Int.reduceToNat, Int.reduceAdd, Int.reduceSub, Int.reduceLE, Int.cast_ofNat_Int, Int.reduceBEq, List.flatten_cons, List.flatten_nil, Nat.reduceMul, Nat.one_mul, Nat.mul_one, Nat.mul_zero, Nat.zero_le, Int.reduceMul, z6, e1, e2, eq, r12, e3, z2, z4, z5, z7, List.length_map, List.length_append, zq, itemsOf, List.append_assoc, Nat.add_assoc, zL]
  rw [loop _ rfl rfl]
  simp only [mc_at, mvar_at, mnil_at, mcons_at, mop1_at, mop2_at, mtup_at, mlst_at, mfun_at, mand_at, mor_at, mnot_at, mandT_at, morT_at, mnotT_at, mtru_at, mbl_at, mite_at, mchain_at, mcall_at, mcallN_at, mmeth_at, msl_at, mpart0, mpart1, mdic0_at, iseq_at, irng_at, mcomp_at, fin_none, fin_v, fin_newF, fin_newT, resM_some, resM_none, isLst_ref, lstOf_ref, lstOf_lst, seqOf_tup, seqOf_lst, seqOf_ref, seqOf_scr, truth_bl, ofE_at, ofT_at, sPass_at, sExpr_at, sRet_at, sRetN_at, sAsg_at, sIf_at, sSeq_at, sFor_at, forLoop_nil, forLoop_cons, gname_at, gtup_at, go_nil, go_cons, gstar_at, gsub_at, runB_at, startE_at, wipeE_nil, wipeE_cons, isi_at, len_at, all_lst, tuple_at, list_at, isN_eq, isN_ne, isN_in, isN_notIn, cmp_int, add_int, sub_int, mod_int, fdiv_int, mul_int, mul_lst, add_lst, add_refL, app_at, join_at, isStr_str, add_tup, add_str, int_bl, int_int, sl_tup, sl_lst, sl_str, pow_int, neg_int, ix_tup, ix_lst, ix_ref, ix_scr, Res.bind_ok, Res.bind_bad, Res.bind_exc, List.getElem?_cons_zero, List.getElem?_cons_succ, List.getElem?_nil, List.map_cons, List.map_nil, List.cons_append, List.nil_append, List.append_nil, List.length_cons, List.length_nil, List.set_cons_zero, List.set_cons_succ, Option.map_some, Option.map_none, Option.isSome_some, List.replicate_succ, List.replicate_zero, if_true, if_false, reduceIte, Nat.reduceAdd, Nat.reduceSub, Nat.reduceLeDiff, Nat.reduceEqDiff, Nat.reduceLT, Bool.false_eq_true, and_self, and_true, true_and, List.drop_succ_cons, List.drop_zero, List.take_succ_cons, List.take_zero, Nat.zero_add, Nat.add_zero, Bool.not_true, Bool.not_false, Nat.sub_self, Nat.le_refl, Int.reduceLT, Int.reduceNeg, Nat.reducePow, Int.reducePow, Int.reduceToNat, Int.reduceAdd, Int.reduceSub, Int.reduceLE, Int.cast_ofNat_Int, Int.reduceBEq, List.flatten_cons, List.flatten_nil, Nat.reduceMul, Nat.one_mul, Nat.mul_one, Nat.mul_zero, Nat.zero_le, Int.reduceMul, bl_, al_]
theorem law_true (ns : List Int) (hn : ns.length ≤ 63) : ∃ h, F_law [.scr ns] [] = .ok (.bl true) h := by
  obtain ⟨m, hm, m5⟩ : ∃ m : Nat, (if (if (ns.length : Int) < 5 then (ns.length : Int) else 5) > 2 then (if (ns.length : Int) < 5 then (ns.length : Int) else 5) else 2) = (m : Int) ∧ m ≤ 5 := by
    by_cases h1 : ns.length < 5
    · by_cases h2 : 2 < ns.length
      · exact ⟨ns.length, by rw [if_pos (by omega), if_pos (by omega)], by omega⟩
      · exact ⟨2, by rw [if_neg (by rw [if_pos (by omega)]; omega)]; rfl, by omega⟩
    · exact ⟨5, by rw [if_pos (by rw [if_neg (by omega)]; omega), if_neg (by omega)]; rfl, by omega⟩
  obtain ⟨ys, h1, e1, _, P1, l1⟩ := comp_st (i := 1) (env := [some (.scr ns), none]) (elt := mcall F__law_right 1 [] (mcons (mcall F__law_rng 2 [] (mcons (mvar 0) (mcons (mvar 1) mnil))) mnil)) (J := fun _ => True) (P := fun y => y = .bl true)
    (xs := (List.range m).map fun k : Nat => D.int (k : Int)) (acc := []) (h := []) (fun x hx h _ => by
      obtain ⟨k, hk, rfl⟩ := List.mem_map.mp hx
      have hk := List.mem_range.mp hk
      obtain ⟨a, b, e2, ha⟩ := rng_new ns k (by omega) h
      have hr : RngAt (h ++ [.lst [.int a, .int b]]) h.length := ⟨a, b, by simp, ha⟩
      obtain ⟨h2, e3⟩ := right_of h.length _ hr
      refine ⟨_, h2, ?_, trivial, rfl⟩
      simp only [mc_at, mvar_at, mnil_at, mcons_at, mop1_at, mop2_at, mtup_at, mlst_at, mfun_at, mand_at, mor_at, mnot_at, mandT_at, morT_at, mnotT_at, mtru_at, mbl_at, mite_at, mchain_at, mcall_at, mcallN_at, mmeth_at, msl_at, mpart0, mpart1, mdic0_at, iseq_at, irng_at, mcomp_at, fin_none, fin_v, fin_newF, fin_newT, resM_some, resM_none, isLst_ref, lstOf_ref, lstOf_lst, seqOf_tup, seqOf_lst, seqOf_ref, seqOf_scr, truth_bl, ofE_at, ofT_at, sPass_at, sExpr_at, sRet_at, sRetN_at, sAsg_at, sIf_at, sSeq_at, sFor_at, forLoop_nil, forLoop_cons, gname_at, gtup_at, go_nil, go_cons, gstar_at, gsub_at, runB_at, startE_at, wipeE_nil, wipeE_cons, isi_at, len_at, all_lst, tuple_at, list_at, isN_eq, isN_ne, isN_in, isN_notIn, cmp_int, add_int, sub_int, mod_int, fdiv_int, mul_int, mul_lst, add_lst, add_refL, app_at, join_at, isStr_str, add_tup, add_str, int_bl, int_int, sl_tup, sl_lst, sl_str, pow_int, neg_int, ix_tup, ix_lst, ix_ref, ix_scr, Res.bind_ok, Res.bind_bad, Res.bind_exc, List.getElem?_cons_zero, List.getElem?_cons_succ, List.getElem?_nil, List.map_cons, List.map_nil, List.cons_append, List.nil_append, List.append_nil, List.length_cons, List.length_nil, List.set_cons_zero, List.set_cons_succ, Option.map_some, Option.map_none, Option.isSome_some, List.replicate_succ, List.replicate_zero, if_true, if_false, reduceIte, Nat.reduceAdd, Nat.reduceSub, Nat.reduceLeDiff, Nat.reduceEqDiff, Nat.reduceLT, Bool.false_eq_true, and_self, and_true, true_and, List.drop_succ_cons, List.drop_zero, List.take_succ_cons, List.take_zero, Nat.zero_add, Nat.add_zero, Bool.not_true, Bool.not_false, Nat.sub_self, Nat.le_refl, Int.reduceLT, Int.reduceNeg, Nat.reducePow, Int.reducePow, Int.reduceToNat, Int.reduceAdd, Int.reduceSub, Int.reduceLE, Int.cast_ofNat_Int, Int.reduceBEq, List.flatten_cons, List.flatten_nil, Nat.reduceMul, Nat.one_mul, Nat.mul_one, Nat.mul_zero, Nat.zero_le, Int.reduceMul, e2, e3]) trivial
  obtain ⟨bs, eb, ab⟩ := all_true P1
  refine ⟨h1, ?_⟩
  simp only [List.nil_append] at e1
  have f1 : ∀ h : Hd, fMin [.int 5, .int (ns.length : Int)] h = some (.v (.int (if (ns.length : Int) < 5 then (ns.length : Int) else 5))) := fun _ => rfl
  have f2 : ∀ (j : Int) (h : Hd), fMax [.int 2, .int j] h = some (.v (.int (if j > 2 then j else 2))) := fun _ _ => rfl
  simp only [F_law, m_law, mc_at, mvar_at, mnil_at, mcons_at, mop1_at, mop2_at, mtup_at, mlst_at, mfun_at, mand_at, mor_at, mnot_at, mandT_at, morT_at, mnotT_at, mtru_at, mbl_at, mite_at, mchain_at, mcall_at, mcallN_at, mmeth_at, msl_at, mpart0, mpart1, mdic0_at, iseq_at, irng_at, mcomp_at, fin_none, fin_v, fin_newF, fin_newT, resM_some, resM_none, isLst_ref, lstOf_ref, lstOf_lst, seqOf_tup, seqOf_lst, seqOf_ref, seqOf_scr, truth_bl, ofE_at, ofT_at, sPass_at, sExpr_at, sRet_at, sRetN_at, sAsg_at, sIf_at, sSeq_at, sFor_at, forLoop_nil, forLoop_cons, gname_at, gtup_at, go_nil, go_cons, gstar_at, gsub_at, runB_at, startE_at, wipeE_nil, wipeE_cons, isi_at, len_at, all_lst, tuple_at, list_at, isN_eq, isN_ne, isN_in, isN_notIn, cmp_int, add_int, sub_int, mod_int, fdiv_int, mul_int, mul_lst, add_lst, add_refL, app_at, join_at, isStr_str, add_tup, add_str, int_bl, int_int, sl_tup, sl_lst, sl_str, pow_int, neg_int, ix_tup, ix_lst, ix_ref, ix_scr, Res.bind_ok, Res.bind_bad, Res.bind_exc, List.getElem?_cons_zero, List.getElem?_cons_succ, List.getElem?_nil, List.map_cons, List.map_nil, List.cons_append, List.nil_append, List.append_nil, List.length_cons, List.length_nil, List.set_cons_zero, List.set_cons_succ, Option.map_some, Option.map_none, Option.isSome_some, List.replicate_succ, List.replicate_zero, if_true, if_false, reduceIte, Nat.reduceAdd, Nat.reduceSub, Nat.reduceLeDiff, Nat.reduceEqDiff, Nat.reduceLT, Bool.false_eq_true, and_self, and_true, true_and, List.drop_succ_cons, List.drop_zero, List.take_succ_cons, List.take_zero, Nat.zero_add, Nat.add_zero, Bool.not_true, Bool.not_false, Nat.sub_self, Nat.le_refl, Int.reduceLT, Int.reduceNeg, Nat.reducePow, Int.reducePow, Int.reduceToNat, Int.reduceAdd, Int.reduceSub, Int.reduceLE, Int.cast_ofNat_Int, Int.reduceBEq, List.flatten_cons, List.flatten_nil, Nat.reduceMul, Nat.one_mul, Nat.mul_one, Nat.mul_zero, Nat.zero_le, Int.reduceMul, lenOf, List.length_map, f1, f2, hm, range_ok (n := m) (by omega), e1, eb, ab]
end EV


set_option maxHeartbeats 4000000
namespace EV
open PySem PySem.Spec PyProof.Rows L2
theorem all_mk {P : Program} {w : World} {K : PySem.W.Frag} {h : Heap} {mg : Str → Option Value} {fa : Addr} (X : K.In h) (G : h.Ns mainGlobals mg) (hfa : mg "law" = some (.ref fa))
    {tk_gCAPITALS : Nat} {tk_gLETTERS : Nat} {tk_gMOST_CAPITALS : Nat} {tk_gMOST_LETTERS : Nat} {tk_gMOST_WORDS : Nat} {tk_gSTARTS_0 : Nat} {tk_gSTARTS_1 : Nat} {tk_gSTARTS_2 : Nat} {T_gSTARTS : Addr} {od_gSTARTS : Option Addr} {n_gSTARTS : Nat} {sl_gSTARTS : Array (Option Value)} {tk_gTHERE : Nat} {f_is_integer : Addr} {od_is_integer : Option Addr} {an_is_integer : Option Addr} {sl_is_integer : Array (Option Value)} {oc_is_integer : Value} {dc_is_integer : Value} {pm_is_integer : Value} {cd_is_integer : Value} {ct_is_integer : Value} {kV_is_integer : Value} {f_is_count : Addr} {od_is_count : Option Addr} {an_is_count : Option Addr} {sl_is_count : Array (Option Value)} {oc_is_count : Value} {dc_is_count : Value} {pm_is_count : Value} {cd_is_count : Value} {ct_is_count : Value} {kV_is_count : Value} {f_is_made_of : Addr} {od_is_made_of : Option Addr} {an_is_made_of : Option Addr} {sl_is_made_of : Array (Option Value)} {oc_is_made_of : Value} {dc_is_made_of : Value} {pm_is_made_of : Value} {cd_is_made_of : Value} {ct_is_made_of : Value} {kV_is_made_of : Value} {f_is_name : Addr} {od_is_name : Option Addr} {an_is_name : Option Addr} {sl_is_name : Array (Option Value)} {oc_is_name : Value} {dc_is_name : Value} {pm_is_name : Value} {cd_is_name : Value} {ct_is_name : Value} {kV_is_name : Value} {f_is_parameter : Addr} {od_is_parameter : Option Addr} {an_is_parameter : Option Addr} {sl_is_parameter : Array (Option Value)} {oc_is_parameter : Value} {dc_is_parameter : Value} {pm_is_parameter : Value} {cd_is_parameter : Value} {ct_is_parameter : Value} {kV_is_parameter : Value} {f_is_place : Addr} {od_is_place : Option Addr} {an_is_place : Option Addr} {sl_is_place : Array (Option Value)} {oc_is_place : Value} {dc_is_place : Value} {pm_is_place : Value} {cd_is_place : Value} {ct_is_place : Value} {kV_is_place : Value} {f_is_word : Addr} {od_is_word : Option Addr} {an_is_word : Option Addr} {sl_is_word : Array (Option Value)} {DT_is_word : Addr} {dod_is_word : Option Addr} {dn_is_word : Nat} {dsl_is_word : Array (Option Value)} {oc_is_word : Value} {dc_is_word : Value} {pm_is_word : Value} {cd_is_word : Value} {ct_is_word : Value} {kV_is_word : Value} {T_d0_is_word : Addr} {od_d0_is_word : Option Addr} {n_d0_is_word : Nat} {sl_d0_is_word : Array (Option Value)} {f_is_path : Addr} {od_is_path : Option Addr} {an_is_path : Option Addr} {sl_is_path : Array (Option Value)} {DT_is_path : Addr} {dod_is_path : Option Addr} {dn_is_path : Nat} {dsl_is_path : Array (Option Value)} {DK_is_path : Addr} {oc_is_path : Value} {dc_is_path : Value} {pm_is_path : Value} {cd_is_path : Value} {ct_is_path : Value} {T_d0_is_path : Addr} {od_d0_is_path : Option Addr} {n_d0_is_path : Nat} {sl_d0_is_path : Array (Option Value)} {f__law_rng : Addr} {od__law_rng : Option Addr} {an__law_rng : Option Addr} {sl__law_rng : Array (Option Value)} {oc__law_rng : Value} {dc__law_rng : Value} {pm__law_rng : Value} {cd__law_rng : Value} {ct__law_rng : Value} {kV__law_rng : Value} {f__law_draw : Addr} {od__law_draw : Option Addr} {an__law_draw : Option Addr} {sl__law_draw : Array (Option Value)} {oc__law_draw : Value} {dc__law_draw : Value} {pm__law_draw : Value} {cd__law_draw : Value} {ct__law_draw : Value} {kV__law_draw : Value} {f__law_choice : Addr} {od__law_choice : Option Addr} {an__law_choice : Option Addr} {sl__law_choice : Array (Option Value)} {oc__law_choice : Value} {dc__law_choice : Value} {pm__law_choice : Value} {cd__law_choice : Value} {ct__law_choice : Value} {kV__law_choice : Value} {f__law_shuffled : Addr} {od__law_shuffled : Option Addr} {an__law_shuffled : Option Addr} {sl__law_shuffled : Array (Option Value)} {oc__law_shuffled : Value} {dc__law_shuffled : Value} {pm__law_shuffled : Value} {cd__law_shuffled : Value} {ct__law_shuffled : Value} {kV__law_shuffled : Value} {f__law_is_whole : Addr} {od__law_is_whole : Option Addr} {an__law_is_whole : Option Addr} {sl__law_is_whole : Array (Option Value)} {oc__law_is_whole : Value} {dc__law_is_whole : Value} {pm__law_is_whole : Value} {cd__law_is_whole : Value} {ct__law_is_whole : Value} {kV__law_is_whole : Value} {f__law_is_spelled : Addr} {od__law_is_spelled : Option Addr} {an__law_is_spelled : Option Addr} {sl__law_is_spelled : Array (Option Value)} {oc__law_is_spelled : Value} {dc__law_is_spelled : Value} {pm__law_is_spelled : Value} {cd__law_is_spelled : Value} {ct__law_is_spelled : Value} {kV__law_is_spelled : Value} {f__law_is_small : Addr} {od__law_is_small : Option Addr} {an__law_is_small : Option Addr} {sl__law_is_small : Array (Option Value)} {oc__law_is_small : Value} {dc__law_is_small : Value} {pm__law_is_small : Value} {cd__law_is_small : Value} {ct__law_is_small : Value} {kV__law_is_small : Value} {f__law_is_great : Addr} {od__law_is_great : Option Addr} {an__law_is_great : Option Addr} {sl__law_is_great : Array (Option Value)} {oc__law_is_great : Value} {dc__law_is_great : Value} {pm__law_is_great : Value} {cd__law_is_great : Value} {ct__law_is_great : Value} {kV__law_is_great : Value} {f__law_is_fit : Addr} {od__law_is_fit : Option Addr} {an__law_is_fit : Option Addr} {sl__law_is_fit : Array (Option Value)} {oc__law_is_fit : Value} {dc__law_is_fit : Value} {pm__law_is_fit : Value} {cd__law_is_fit : Value} {ct__law_is_fit : Value} {kV__law_is_fit : Value} {f__law_is_way : Addr} {od__law_is_way : Option Addr} {an__law_is_way : Option Addr} {sl__law_is_way : Array (Option Value)} {oc__law_is_way : Value} {dc__law_is_way : Value} {pm__law_is_way : Value} {cd__law_is_way : Value} {ct__law_is_way : Value} {kV__law_is_way : Value} {f__law_is_spot : Addr} {od__law_is_spot : Option Addr} {an__law_is_spot : Option Addr} {sl__law_is_spot : Array (Option Value)} {oc__law_is_spot : Value} {dc__law_is_spot : Value} {pm__law_is_spot : Value} {cd__law_is_spot : Value} {ct__law_is_spot : Value} {kV__law_is_spot : Value} {f__law_text : Addr} {od__law_text : Option Addr} {an__law_text : Option Addr} {sl__law_text : Array (Option Value)} {oc__law_text : Value} {dc__law_text : Value} {pm__law_text : Value} {cd__law_text : Value} {ct__law_text : Value} {kV__law_text : Value} {f__law_odd : Addr} {od__law_odd : Option Addr} {an__law_odd : Option Addr} {sl__law_odd : Array (Option Value)} {oc__law_odd : Value} {dc__law_odd : Value} {pm__law_odd : Value} {cd__law_odd : Value} {ct__law_odd : Value} {kV__law_odd : Value} {f__law_value : Addr} {od__law_value : Option Addr} {an__law_value : Option Addr} {sl__law_value : Array (Option Value)} {oc__law_value : Value} {dc__law_value : Value} {pm__law_value : Value} {cd__law_value : Value} {ct__law_value : Value} {kV__law_value : Value} {f__law_is_right : Addr} {od__law_is_right : Option Addr} {an__law_is_right : Option Addr} {sl__law_is_right : Array (Option Value)} {oc__law_is_right : Value} {dc__law_is_right : Value} {pm__law_is_right : Value} {cd__law_is_right : Value} {ct__law_is_right : Value} {kV__law_is_right : Value} {f__law_right : Addr} {od__law_right : Option Addr} {an__law_right : Option Addr} {sl__law_right : Array (Option Value)} {oc__law_right : Value} {dc__law_right : Value} {pm__law_right : Value} {cd__law_right : Value} {ct__law_right : Value} {kV__law_right : Value} {f_law : Addr} {od_law : Option Addr} {an_law : Option Addr} {sl_law : Array (Option Value)} {oc_law : Value} {dc_law : Value} {pm_law : Value} {cd_law : Value} {ct_law : Value} {kV_law : Value}
    (z_abs : PySem.W.nsIn K mainGlobals "abs" = some none)
    (z_all : PySem.W.nsIn K mainGlobals "all" = some none)
    (z_bool : PySem.W.nsIn K mainGlobals "bool" = some none)
    (z_divmod : PySem.W.nsIn K mainGlobals "divmod" = some none)
    (z_int : PySem.W.nsIn K mainGlobals "int" = some none)
    (z_isinstance : PySem.W.nsIn K mainGlobals "isinstance" = some none)
    (z_len : PySem.W.nsIn K mainGlobals "len" = some none)
    (z_list : PySem.W.nsIn K mainGlobals "list" = some none)
    (z_max : PySem.W.nsIn K mainGlobals "max" = some none)
    (z_min : PySem.W.nsIn K mainGlobals "min" = some none)
    (z_range : PySem.W.nsIn K mainGlobals "range" = some none)
    (z_repr : PySem.W.nsIn K mainGlobals "repr" = some none)
    (z_str : PySem.W.nsIn K mainGlobals "str" = some none)
    (z_tuple : PySem.W.nsIn K mainGlobals "tuple" = some none)
    (g_CAPITALS : PySem.W.nsIn K mainGlobals "CAPITALS" = some (some (Value.str "ABCDEFGHIJKLMNOPQRSTUVWXYZ" tk_gCAPITALS)))
    (g_LETTERS : PySem.W.nsIn K mainGlobals "LETTERS" = some (some (Value.str "abcdefghijklmnopqrstuvwxyz" tk_gLETTERS)))
    (g_MOST_CAPITALS : PySem.W.nsIn K mainGlobals "MOST_CAPITALS" = some (some (Value.int 4 tk_gMOST_CAPITALS)))
    (g_MOST_LETTERS : PySem.W.nsIn K mainGlobals "MOST_LETTERS" = some (some (Value.int 8 tk_gMOST_LETTERS)))
    (g_MOST_WORDS : PySem.W.nsIn K mainGlobals "MOST_WORDS" = some (some (Value.int 6 tk_gMOST_WORDS)))
    (g_STARTS : PySem.W.nsIn K mainGlobals "STARTS" = some (some (Value.ref T_gSTARTS)))
    (l_gSTARTS : K.lookup T_gSTARTS = some ⟨.type "tuple", od_gSTARTS, .seq #[(Value.str "root" tk_gSTARTS_0), (Value.str "here" tk_gSTARTS_1), (Value.str "there" tk_gSTARTS_2)] n_gSTARTS, sl_gSTARTS⟩)
    (g_THERE : PySem.W.nsIn K mainGlobals "THERE" = some (some (Value.str "there" tk_gTHERE)))
    (a_is_integer : PySem.W.nsIn K mainGlobals "is_integer" = some (some (.ref f_is_integer)))
    (l_is_integer : K.lookup f_is_integer = some ⟨oc_is_integer, od_is_integer, .func (PySem.W.fnOf "is_integer" "is_integer" (defArgs st_is_integer) (defBody st_is_integer) (defScope st_is_integer) .none kV_is_integer dc_is_integer pm_is_integer an_is_integer cd_is_integer ct_is_integer), sl_is_integer⟩)
    (c_is_integer : PySem.W.codeIn K cd_is_integer "is_integer" = true)
    (k_is_integer : PySem.W.keepIn K (.ref f_is_integer) = true)
    (a_is_count : PySem.W.nsIn K mainGlobals "is_count" = some (some (.ref f_is_count)))
    (l_is_count : K.lookup f_is_count = some ⟨oc_is_count, od_is_count, .func (PySem.W.fnOf "is_count" "is_count" (defArgs st_is_count) (defBody st_is_count) (defScope st_is_count) .none kV_is_count dc_is_count pm_is_count an_is_count cd_is_count ct_is_count), sl_is_count⟩)
    (c_is_count : PySem.W.codeIn K cd_is_count "is_count" = true)
    (k_is_count : PySem.W.keepIn K (.ref f_is_count) = true)
    (a_is_made_of : PySem.W.nsIn K mainGlobals "is_made_of" = some (some (.ref f_is_made_of)))
    (l_is_made_of : K.lookup f_is_made_of = some ⟨oc_is_made_of, od_is_made_of, .func (PySem.W.fnOf "is_made_of" "is_made_of" (defArgs st_is_made_of) (defBody st_is_made_of) (defScope st_is_made_of) .none kV_is_made_of dc_is_made_of pm_is_made_of an_is_made_of cd_is_made_of ct_is_made_of), sl_is_made_of⟩)
    (c_is_made_of : PySem.W.codeIn K cd_is_made_of "is_made_of" = true)
    (k_is_made_of : PySem.W.keepIn K (.ref f_is_made_of) = true)
    (a_is_name : PySem.W.nsIn K mainGlobals "is_name" = some (some (.ref f_is_name)))
    (l_is_name : K.lookup f_is_name = some ⟨oc_is_name, od_is_name, .func (PySem.W.fnOf "is_name" "is_name" (defArgs st_is_name) (defBody st_is_name) (defScope st_is_name) .none kV_is_name dc_is_name pm_is_name an_is_name cd_is_name ct_is_name), sl_is_name⟩)
    (c_is_name : PySem.W.codeIn K cd_is_name "is_name" = true)
    (k_is_name : PySem.W.keepIn K (.ref f_is_name) = true)
    (a_is_parameter : PySem.W.nsIn K mainGlobals "is_parameter" = some (some (.ref f_is_parameter)))
    (l_is_parameter : K.lookup f_is_parameter = some ⟨oc_is_parameter, od_is_parameter, .func (PySem.W.fnOf "is_parameter" "is_parameter" (defArgs st_is_parameter) (defBody st_is_parameter) (defScope st_is_parameter) .none kV_is_parameter dc_is_parameter pm_is_parameter an_is_parameter cd_is_parameter ct_is_parameter), sl_is_parameter⟩)
    (c_is_parameter : PySem.W.codeIn K cd_is_parameter "is_parameter" = true)
    (k_is_parameter : PySem.W.keepIn K (.ref f_is_parameter) = true)
    (a_is_place : PySem.W.nsIn K mainGlobals "is_place" = some (some (.ref f_is_place)))
    (l_is_place : K.lookup f_is_place = some ⟨oc_is_place, od_is_place, .func (PySem.W.fnOf "is_place" "is_place" (defArgs st_is_place) (defBody st_is_place) (defScope st_is_place) .none kV_is_place dc_is_place pm_is_place an_is_place cd_is_place ct_is_place), sl_is_place⟩)
    (c_is_place : PySem.W.codeIn K cd_is_place "is_place" = true)
    (k_is_place : PySem.W.keepIn K (.ref f_is_place) = true)
    (a_is_word : PySem.W.nsIn K mainGlobals "is_word" = some (some (.ref f_is_word)))
    (l_is_word : K.lookup f_is_word = some ⟨oc_is_word, od_is_word, .func (PySem.W.fnOf "is_word" "is_word" (defArgs st_is_word) (defBody st_is_word) (defScope st_is_word) (.ref DT_is_word) kV_is_word dc_is_word pm_is_word an_is_word cd_is_word ct_is_word), sl_is_word⟩)
    (c_is_word : PySem.W.codeIn K cd_is_word "is_word" = true)
    (k_is_word : PySem.W.keepIn K (.ref f_is_word) = true)
    (t_is_word : K.lookup DT_is_word = some ⟨.type "tuple", dod_is_word, .seq #[(Value.ref T_d0_is_word)] dn_is_word, dsl_is_word⟩)
    (l_d0_is_word : K.lookup T_d0_is_word = some ⟨.type "tuple", od_d0_is_word, .seq #[] n_d0_is_word, sl_d0_is_word⟩)
    (a_is_path : PySem.W.nsIn K mainGlobals "is_path" = some (some (.ref f_is_path)))
    (l_is_path : K.lookup f_is_path = some ⟨oc_is_path, od_is_path, .func (PySem.W.fnOf "is_path" "is_path" (defArgs st_is_path) (defBody st_is_path) (defScope st_is_path) (.ref DT_is_path) (.ref DK_is_path) dc_is_path pm_is_path an_is_path cd_is_path ct_is_path), sl_is_path⟩)
    (c_is_path : PySem.W.codeIn K cd_is_path "is_path" = true)
    (k_is_path : PySem.W.keepIn K (.ref f_is_path) = true)
    (t_is_path : K.lookup DT_is_path = some ⟨.type "tuple", dod_is_path, .seq #[(Value.ref T_d0_is_path)] dn_is_path, dsl_is_path⟩)
    (l_d0_is_path : K.lookup T_d0_is_path = some ⟨.type "tuple", od_d0_is_path, .seq #[] n_d0_is_path, sl_d0_is_path⟩)
    (q0_is_path : PySem.W.nsIn K DK_is_path "in_macro" = some (some (Value.bool false)))
    (a__law_rng : PySem.W.nsIn K mainGlobals "_law_rng" = some (some (.ref f__law_rng)))
    (l__law_rng : K.lookup f__law_rng = some ⟨oc__law_rng, od__law_rng, .func (PySem.W.fnOf "_law_rng" "_law_rng" (defArgs st__law_rng) (defBody st__law_rng) (defScope st__law_rng) .none kV__law_rng dc__law_rng pm__law_rng an__law_rng cd__law_rng ct__law_rng), sl__law_rng⟩)
    (c__law_rng : PySem.W.codeIn K cd__law_rng "_law_rng" = true)
    (k__law_rng : PySem.W.keepIn K (.ref f__law_rng) = true)
    (a__law_draw : PySem.W.nsIn K mainGlobals "_law_draw" = some (some (.ref f__law_draw)))
    (l__law_draw : K.lookup f__law_draw = some ⟨oc__law_draw, od__law_draw, .func (PySem.W.fnOf "_law_draw" "_law_draw" (defArgs st__law_draw) (defBody st__law_draw) (defScope st__law_draw) .none kV__law_draw dc__law_draw pm__law_draw an__law_draw cd__law_draw ct__law_draw), sl__law_draw⟩)
    (c__law_draw : PySem.W.codeIn K cd__law_draw "_law_draw" = true)
    (k__law_draw : PySem.W.keepIn K (.ref f__law_draw) = true)
    (a__law_choice : PySem.W.nsIn K mainGlobals "_law_choice" = some (some (.ref f__law_choice)))
    (l__law_choice : K.lookup f__law_choice = some ⟨oc__law_choice, od__law_choice, .func (PySem.W.fnOf "_law_choice" "_law_choice" (defArgs st__law_choice) (defBody st__law_choice) (defScope st__law_choice) .none kV__law_choice dc__law_choice pm__law_choice an__law_choice cd__law_choice ct__law_choice), sl__law_choice⟩)
    (c__law_choice : PySem.W.codeIn K cd__law_choice "_law_choice" = true)
    (k__law_choice : PySem.W.keepIn K (.ref f__law_choice) = true)
    (a__law_shuffled : PySem.W.nsIn K mainGlobals "_law_shuffled" = some (some (.ref f__law_shuffled)))
    (l__law_shuffled : K.lookup f__law_shuffled = some ⟨oc__law_shuffled, od__law_shuffled, .func (PySem.W.fnOf "_law_shuffled" "_law_shuffled" (defArgs st__law_shuffled) (defBody st__law_shuffled) (defScope st__law_shuffled) .none kV__law_shuffled dc__law_shuffled pm__law_shuffled an__law_shuffled cd__law_shuffled ct__law_shuffled), sl__law_shuffled⟩)
    (c__law_shuffled : PySem.W.codeIn K cd__law_shuffled "_law_shuffled" = true)
    (k__law_shuffled : PySem.W.keepIn K (.ref f__law_shuffled) = true)
    (a__law_is_whole : PySem.W.nsIn K mainGlobals "_law_is_whole" = some (some (.ref f__law_is_whole)))
    (l__law_is_whole : K.lookup f__law_is_whole = some ⟨oc__law_is_whole, od__law_is_whole, .func (PySem.W.fnOf "_law_is_whole" "_law_is_whole" (defArgs st__law_is_whole) (defBody st__law_is_whole) (defScope st__law_is_whole) .none kV__law_is_whole dc__law_is_whole pm__law_is_whole an__law_is_whole cd__law_is_whole ct__law_is_whole), sl__law_is_whole⟩)
    (c__law_is_whole : PySem.W.codeIn K cd__law_is_whole "_law_is_whole" = true)
    (k__law_is_whole : PySem.W.keepIn K (.ref f__law_is_whole) = true)
    (a__law_is_spelled : PySem.W.nsIn K mainGlobals "_law_is_spelled" = some (some (.ref f__law_is_spelled)))
    (l__law_is_spelled : K.lookup f__law_is_spelled = some ⟨oc__law_is_spelled, od__law_is_spelled, .func (PySem.W.fnOf "_law_is_spelled" "_law_is_spelled" (defArgs st__law_is_spelled) (defBody st__law_is_spelled) (defScope st__law_is_spelled) .none kV__law_is_spelled dc__law_is_spelled pm__law_is_spelled an__law_is_spelled cd__law_is_spelled ct__law_is_spelled), sl__law_is_spelled⟩)
    (c__law_is_spelled : PySem.W.codeIn K cd__law_is_spelled "_law_is_spelled" = true)
    (k__law_is_spelled : PySem.W.keepIn K (.ref f__law_is_spelled) = true)
    (a__law_is_small : PySem.W.nsIn K mainGlobals "_law_is_small" = some (some (.ref f__law_is_small)))
    (l__law_is_small : K.lookup f__law_is_small = some ⟨oc__law_is_small, od__law_is_small, .func (PySem.W.fnOf "_law_is_small" "_law_is_small" (defArgs st__law_is_small) (defBody st__law_is_small) (defScope st__law_is_small) .none kV__law_is_small dc__law_is_small pm__law_is_small an__law_is_small cd__law_is_small ct__law_is_small), sl__law_is_small⟩)
    (c__law_is_small : PySem.W.codeIn K cd__law_is_small "_law_is_small" = true)
    (k__law_is_small : PySem.W.keepIn K (.ref f__law_is_small) = true)
    (a__law_is_great : PySem.W.nsIn K mainGlobals "_law_is_great" = some (some (.ref f__law_is_great)))
    (l__law_is_great : K.lookup f__law_is_great = some ⟨oc__law_is_great, od__law_is_great, .func (PySem.W.fnOf "_law_is_great" "_law_is_great" (defArgs st__law_is_great) (defBody st__law_is_great) (defScope st__law_is_great) .none kV__law_is_great dc__law_is_great pm__law_is_great an__law_is_great cd__law_is_great ct__law_is_great), sl__law_is_great⟩)
    (c__law_is_great : PySem.W.codeIn K cd__law_is_great "_law_is_great" = true)
    (k__law_is_great : PySem.W.keepIn K (.ref f__law_is_great) = true)
    (a__law_is_fit : PySem.W.nsIn K mainGlobals "_law_is_fit" = some (some (.ref f__law_is_fit)))
    (l__law_is_fit : K.lookup f__law_is_fit = some ⟨oc__law_is_fit, od__law_is_fit, .func (PySem.W.fnOf "_law_is_fit" "_law_is_fit" (defArgs st__law_is_fit) (defBody st__law_is_fit) (defScope st__law_is_fit) .none kV__law_is_fit dc__law_is_fit pm__law_is_fit an__law_is_fit cd__law_is_fit ct__law_is_fit), sl__law_is_fit⟩)
    (c__law_is_fit : PySem.W.codeIn K cd__law_is_fit "_law_is_fit" = true)
    (k__law_is_fit : PySem.W.keepIn K (.ref f__law_is_fit) = true)
    (a__law_is_way : PySem.W.nsIn K mainGlobals "_law_is_way" = some (some (.ref f__law_is_way)))
    (l__law_is_way : K.lookup f__law_is_way = some ⟨oc__law_is_way, od__law_is_way, .func (PySem.W.fnOf "_law_is_way" "_law_is_way" (defArgs st__law_is_way) (defBody st__law_is_way) (defScope st__law_is_way) .none kV__law_is_way dc__law_is_way pm__law_is_way an__law_is_way cd__law_is_way ct__law_is_way), sl__law_is_way⟩)
    (c__law_is_way : PySem.W.codeIn K cd__law_is_way "_law_is_way" = true)
    (k__law_is_way : PySem.W.keepIn K (.ref f__law_is_way) = true)
    (a__law_is_spot : PySem.W.nsIn K mainGlobals "_law_is_spot" = some (some (.ref f__law_is_spot)))
    (l__law_is_spot : K.lookup f__law_is_spot = some ⟨oc__law_is_spot, od__law_is_spot, .func (PySem.W.fnOf "_law_is_spot" "_law_is_spot" (defArgs st__law_is_spot) (defBody st__law_is_spot) (defScope st__law_is_spot) .none kV__law_is_spot dc__law_is_spot pm__law_is_spot an__law_is_spot cd__law_is_spot ct__law_is_spot), sl__law_is_spot⟩)
    (c__law_is_spot : PySem.W.codeIn K cd__law_is_spot "_law_is_spot" = true)
    (k__law_is_spot : PySem.W.keepIn K (.ref f__law_is_spot) = true)
    (a__law_text : PySem.W.nsIn K mainGlobals "_law_text" = some (some (.ref f__law_text)))
    (l__law_text : K.lookup f__law_text = some ⟨oc__law_text, od__law_text, .func (PySem.W.fnOf "_law_text" "_law_text" (defArgs st__law_text) (defBody st__law_text) (defScope st__law_text) .none kV__law_text dc__law_text pm__law_text an__law_text cd__law_text ct__law_text), sl__law_text⟩)
    (c__law_text : PySem.W.codeIn K cd__law_text "_law_text" = true)
    (k__law_text : PySem.W.keepIn K (.ref f__law_text) = true)
    (a__law_odd : PySem.W.nsIn K mainGlobals "_law_odd" = some (some (.ref f__law_odd)))
    (l__law_odd : K.lookup f__law_odd = some ⟨oc__law_odd, od__law_odd, .func (PySem.W.fnOf "_law_odd" "_law_odd" (defArgs st__law_odd) (defBody st__law_odd) (defScope st__law_odd) .none kV__law_odd dc__law_odd pm__law_odd an__law_odd cd__law_odd ct__law_odd), sl__law_odd⟩)
    (c__law_odd : PySem.W.codeIn K cd__law_odd "_law_odd" = true)
    (k__law_odd : PySem.W.keepIn K (.ref f__law_odd) = true)
    (a__law_value : PySem.W.nsIn K mainGlobals "_law_value" = some (some (.ref f__law_value)))
    (l__law_value : K.lookup f__law_value = some ⟨oc__law_value, od__law_value, .func (PySem.W.fnOf "_law_value" "_law_value" (defArgs st__law_value) (defBody st__law_value) (defScope st__law_value) .none kV__law_value dc__law_value pm__law_value an__law_value cd__law_value ct__law_value), sl__law_value⟩)
    (c__law_value : PySem.W.codeIn K cd__law_value "_law_value" = true)
    (k__law_value : PySem.W.keepIn K (.ref f__law_value) = true)
    (a__law_is_right : PySem.W.nsIn K mainGlobals "_law_is_right" = some (some (.ref f__law_is_right)))
    (l__law_is_right : K.lookup f__law_is_right = some ⟨oc__law_is_right, od__law_is_right, .func (PySem.W.fnOf "_law_is_right" "_law_is_right" (defArgs st__law_is_right) (defBody st__law_is_right) (defScope st__law_is_right) .none kV__law_is_right dc__law_is_right pm__law_is_right an__law_is_right cd__law_is_right ct__law_is_right), sl__law_is_right⟩)
    (c__law_is_right : PySem.W.codeIn K cd__law_is_right "_law_is_right" = true)
    (k__law_is_right : PySem.W.keepIn K (.ref f__law_is_right) = true)
    (a__law_right : PySem.W.nsIn K mainGlobals "_law_right" = some (some (.ref f__law_right)))
    (l__law_right : K.lookup f__law_right = some ⟨oc__law_right, od__law_right, .func (PySem.W.fnOf "_law_right" "_law_right" (defArgs st__law_right) (defBody st__law_right) (defScope st__law_right) .none kV__law_right dc__law_right pm__law_right an__law_right cd__law_right ct__law_right), sl__law_right⟩)
    (c__law_right : PySem.W.codeIn K cd__law_right "_law_right" = true)
    (k__law_right : PySem.W.keepIn K (.ref f__law_right) = true)
    (a_law : PySem.W.nsIn K mainGlobals "law" = some (some (.ref f_law)))
    (l_law : K.lookup f_law = some ⟨oc_law, od_law, .func (PySem.W.fnOf "law" "law" (defArgs st_law) (defBody st_law) (defScope st_law) .none kV_law dc_law pm_law an_law cd_law ct_law), sl_law⟩)
    (c_law : PySem.W.codeIn K cd_law "law" = true)
    (k_law : PySem.W.keepIn K (.ref f_law) = true)
    : ∃ (fd : FuncData) (C : Ctx), C.K = K ∧ (∀ (s : Shared) (u : Value), BindsTo s fd ⟨[u], []⟩ [("_law_script", u)]) ∧ ∀ base : Heap, K.In base → base.Ns mainGlobals mg → FnG P w K mg base CX0 7 fa fd ["_law_script"] (spM C 1 F_law) := by
  have e := hfa.symm.trans (PySem.W.mg_of X G a_law)
  cases e
  have FD_is_integer := fund0 (st := st_is_integer) l_is_integer c_is_integer k_is_integer
  have M_is_integer := PySem.W.mg_of X G a_is_integer
  have FD_is_count := fund0 (st := st_is_count) l_is_count c_is_count k_is_count
  have M_is_count := PySem.W.mg_of X G a_is_count
  have FD_is_made_of := fund0 (st := st_is_made_of) l_is_made_of c_is_made_of k_is_made_of
  have M_is_made_of := PySem.W.mg_of X G a_is_made_of
  have FD_is_name := fund0 (st := st_is_name) l_is_name c_is_name k_is_name
  have M_is_name := PySem.W.mg_of X G a_is_name
  have FD_is_parameter := fund0 (st := st_is_parameter) l_is_parameter c_is_parameter k_is_parameter
  have M_is_parameter := PySem.W.mg_of X G a_is_parameter
  have FD_is_place := fund0 (st := st_is_place) l_is_place c_is_place k_is_place
  have M_is_place := PySem.W.mg_of X G a_is_place
  have FD_is_word := fund1 (st := st_is_word) (its := [(Value.ref T_d0_is_word)]) (dvs := [(V.ref T_d0_is_word)]) l_is_word c_is_word k_is_word t_is_word rfl (.cons rfl .nil) (by simp)
  have M_is_word := PySem.W.mg_of X G a_is_word
  have FD_is_path := fund2 (st := st_is_path) (its := [(Value.ref T_d0_is_path)]) (dvs := [(V.ref T_d0_is_path)]) (kws := [("in_macro", (V.bl false))]) l_is_path c_is_path k_is_path t_is_path rfl (.cons rfl .nil) (by simp) (by intro q hq; simp only [List.mem_cons, List.not_mem_nil, or_false] at hq; subst hq; exact ⟨_, q0_is_path, rfl⟩)
  have M_is_path := PySem.W.mg_of X G a_is_path
  have FD__law_rng := fund0 (st := st__law_rng) l__law_rng c__law_rng k__law_rng
  have M__law_rng := PySem.W.mg_of X G a__law_rng
  have FD__law_draw := fund0 (st := st__law_draw) l__law_draw c__law_draw k__law_draw
  have M__law_draw := PySem.W.mg_of X G a__law_draw
  have FD__law_choice := fund0 (st := st__law_choice) l__law_choice c__law_choice k__law_choice
  have M__law_choice := PySem.W.mg_of X G a__law_choice
  have FD__law_shuffled := fund0 (st := st__law_shuffled) l__law_shuffled c__law_shuffled k__law_shuffled
  have M__law_shuffled := PySem.W.mg_of X G a__law_shuffled
  have FD__law_is_whole := fund0 (st := st__law_is_whole) l__law_is_whole c__law_is_whole k__law_is_whole
  have M__law_is_whole := PySem.W.mg_of X G a__law_is_whole
  have FD__law_is_spelled := fund0 (st := st__law_is_spelled) l__law_is_spelled c__law_is_spelled k__law_is_spelled
  have M__law_is_spelled := PySem.W.mg_of X G a__law_is_spelled
  have FD__law_is_small := fund0 (st := st__law_is_small) l__law_is_small c__law_is_small k__law_is_small
  have M__law_is_small := PySem.W.mg_of X G a__law_is_small
  have FD__law_is_great := fund0 (st := st__law_is_great) l__law_is_great c__law_is_great k__law_is_great
  have M__law_is_great := PySem.W.mg_of X G a__law_is_great
  have FD__law_is_fit := fund0 (st := st__law_is_fit) l__law_is_fit c__law_is_fit k__law_is_fit
  have M__law_is_fit := PySem.W.mg_of X G a__law_is_fit
  have FD__law_is_way := fund0 (st := st__law_is_way) l__law_is_way c__law_is_way k__law_is_way
  have M__law_is_way := PySem.W.mg_of X G a__law_is_way
  have FD__law_is_spot := fund0 (st := st__law_is_spot) l__law_is_spot c__law_is_spot k__law_is_spot
  have M__law_is_spot := PySem.W.mg_of X G a__law_is_spot
  have FD__law_text := fund0 (st := st__law_text) l__law_text c__law_text k__law_text
  have M__law_text := PySem.W.mg_of X G a__law_text
  have FD__law_odd := fund0 (st := st__law_odd) l__law_odd c__law_odd k__law_odd
  have M__law_odd := PySem.W.mg_of X G a__law_odd
  have FD__law_value := fund0 (st := st__law_value) l__law_value c__law_value k__law_value
  have M__law_value := PySem.W.mg_of X G a__law_value
  have FD__law_is_right := fund0 (st := st__law_is_right) l__law_is_right c__law_is_right k__law_is_right
  have M__law_is_right := PySem.W.mg_of X G a__law_is_right
  have FD__law_right := fund0 (st := st__law_right) l__law_right c__law_right k__law_right
  have M__law_right := PySem.W.mg_of X G a__law_right
  have FD_law := fund0 (st := st_law) l_law c_law k_law
  have M_law := PySem.W.mg_of X G a_law
  have b_c_is_integer_1 := FD_is_integer.bindsN (ps := ["value"]) fun _ _ _ _ _ _ us hl => match us, hl with | [_], _ => rfl
  have b_c_is_count_1 := FD_is_count.bindsN (ps := ["value"]) fun _ _ _ _ _ _ us hl => match us, hl with | [_], _ => rfl
  have b_c_is_made_of_3 := FD_is_made_of.bindsN (ps := ["value", "signs", "most"]) fun _ _ _ _ _ _ us hl => match us, hl with | [_, _, _], _ => rfl
  have b_c_is_name_1 := FD_is_name.bindsN (ps := ["value"]) fun _ _ _ _ _ _ us hl => match us, hl with | [_], _ => rfl
  have b_c_is_parameter_1 := FD_is_parameter.bindsN (ps := ["value"]) fun _ _ _ _ _ _ us hl => match us, hl with | [_], _ => rfl
  have b_c_is_place_1 := FD_is_place.bindsN (ps := ["value"]) fun _ _ _ _ _ _ us hl => match us, hl with | [_], _ => rfl
  have b_c_is_word_2 : ∃ ds, Vals [] ds ∧ Binds K _ ["value", "parameters"] ds := FD_is_word.binds1 2 1 (by simp) rfl fun T kV doc pm an cdv ct us its h1 h2 => match us, its, h1, h2 with | [_, _], [_], _, _ => ⟨_, rfl, rfl⟩
  have b_c_is_word_1 : ∃ ds, Vals [(V.ref T_d0_is_word)] ds ∧ Binds K _ ["value", "parameters"] ds := FD_is_word.binds1 1 0 (by simp) rfl fun T kV doc pm an cdv ct us its h1 h2 => match us, its, h1, h2 with | [_], [_], _, _ => ⟨_, rfl, rfl⟩
  have b_c_is_path_2 : ∃ ds, Vals [(V.bl false)] ds ∧ Binds K _ ["value", "parameters", "in_macro"] ds := FD_is_path.binds 2 1 (by simp) rfl (fun T D doc pm an cdv ct us its ks h1 h2 h3 => match us, its, ks, h1, h2, h3 with | [_, _], [_], [_], _, _, _ => ⟨_, rfl, _, _, _, _, _, _, rfl, rfl, rfl⟩) (by simp)
  have b_c_is_path_1 : ∃ ds, Vals [(V.ref T_d0_is_path), (V.bl false)] ds ∧ Binds K _ ["value", "parameters", "in_macro"] ds := FD_is_path.binds 1 0 (by simp) rfl (fun T D doc pm an cdv ct us its ks h1 h2 h3 => match us, its, ks, h1, h2, h3 with | [_], [_], [_], _, _, _ => ⟨_, rfl, _, _, _, _, _, _, rfl, rfl, rfl⟩) (by simp)
  have b_cgk_is_path_2_in_macro : ∃ its mv : List Value, KBn K _ ["value", "parameters", "in_macro"] 2 ["in_macro"] (fun us ws => us ++ (its.drop 1 ++ ws)) (fun vs zs => vs ++ (([(V.ref T_d0_is_path)] : List V).drop 1 ++ zs)) := FD_is_path.kbinds 2 ["in_macro"] [] (fun us its mv ws => us ++ (its.drop 1 ++ ws)) (by simp) (by simp) (by simp) (fun a b c d => a.append ((b.drop 1).append d)) (fun T D doc pm an cdv ct us its mv ws h1 h2 h3 h4 => match us, its, mv, ws, h1, h2, h3, h4 with | [_, _], [_], [], [_], _, _, _, _ => ⟨_, rfl, rfl⟩)
  have b_cgk_is_path_1_in_macro : ∃ its mv : List Value, KBn K _ ["value", "parameters", "in_macro"] 1 ["in_macro"] (fun us ws => us ++ (its.drop 0 ++ ws)) (fun vs zs => vs ++ (([(V.ref T_d0_is_path)] : List V).drop 0 ++ zs)) := FD_is_path.kbinds 1 ["in_macro"] [] (fun us its mv ws => us ++ (its.drop 0 ++ ws)) (by simp) (by simp) (by simp) (fun a b c d => a.append ((b.drop 0).append d)) (fun T D doc pm an cdv ct us its mv ws h1 h2 h3 h4 => match us, its, mv, ws, h1, h2, h3, h4 with | [_], [_], [], [_], _, _, _, _ => ⟨_, rfl, rfl⟩)
  have b_c__law_rng_2 := FD__law_rng.bindsN (ps := ["_law_script", "_law_k"]) fun _ _ _ _ _ _ us hl => match us, hl with | [_, _], _ => rfl
  have b_c__law_draw_2 := FD__law_draw.bindsN (ps := ["_law_rng_here", "_law_many"]) fun _ _ _ _ _ _ us hl => match us, hl with | [_, _], _ => rfl
  have b_c__law_choice_2 := FD__law_choice.bindsN (ps := ["_law_rng_here", "_law_some"]) fun _ _ _ _ _ _ us hl => match us, hl with | [_, _], _ => rfl
  have b_c__law_shuffled_2 := FD__law_shuffled.bindsN (ps := ["_law_rng_here", "_law_some"]) fun _ _ _ _ _ _ us hl => match us, hl with | [_, _], _ => rfl
  have b_c__law_is_whole_1 := FD__law_is_whole.bindsN (ps := ["_law_value_here"]) fun _ _ _ _ _ _ us hl => match us, hl with | [_], _ => rfl
  have b_c__law_is_spelled_3 := FD__law_is_spelled.bindsN (ps := ["_law_value_here", "_law_signs", "_law_most"]) fun _ _ _ _ _ _ us hl => match us, hl with | [_, _, _], _ => rfl
  have b_c__law_is_small_1 := FD__law_is_small.bindsN (ps := ["_law_value_here"]) fun _ _ _ _ _ _ us hl => match us, hl with | [_], _ => rfl
  have b_c__law_is_great_1 := FD__law_is_great.bindsN (ps := ["_law_value_here"]) fun _ _ _ _ _ _ us hl => match us, hl with | [_], _ => rfl
  have b_c__law_is_fit_2 := FD__law_is_fit.bindsN (ps := ["_law_value_here", "_law_around"]) fun _ _ _ _ _ _ us hl => match us, hl with | [_, _], _ => rfl
  have b_c__law_is_way_4 := FD__law_is_way.bindsN (ps := ["_law_value_here", "_law_around", "_law_is_inner", "_law_least"]) fun _ _ _ _ _ _ us hl => match us, hl with | [_, _, _, _], _ => rfl
  have b_c__law_is_spot_1 := FD__law_is_spot.bindsN (ps := ["_law_value_here"]) fun _ _ _ _ _ _ us hl => match us, hl with | [_], _ => rfl
  have b_c__law_text_1 := FD__law_text.bindsN (ps := ["_law_rng_here"]) fun _ _ _ _ _ _ us hl => match us, hl with | [_], _ => rfl
  have b_c__law_odd_1 := FD__law_odd.bindsN (ps := ["_law_rng_here"]) fun _ _ _ _ _ _ us hl => match us, hl with | [_], _ => rfl
  have b_c__law_value_2 := FD__law_value.bindsN (ps := ["_law_rng_here", "_law_around"]) fun _ _ _ _ _ _ us hl => match us, hl with | [_, _], _ => rfl
  have b_c__law_is_right_2 := FD__law_is_right.bindsN (ps := ["_law_value_here", "_law_around"]) fun _ _ _ _ _ _ us hl => match us, hl with | [_, _], _ => rfl
  have b_c__law_right_1 := FD__law_right.bindsN (ps := ["_law_rng_here"]) fun _ _ _ _ _ _ us hl => match us, hl with | [_], _ => rfl
  have TT : TX ⟨K, fun _ => 0, fun _ => 0⟩ mg := ⟨PySem.W.mg_none_of X G z_abs, PySem.W.mg_none_of X G z_all, PySem.W.mg_none_of X G z_bool, PySem.W.mg_none_of X G z_divmod, PySem.W.mg_none_of X G z_int, PySem.W.mg_none_of X G z_isinstance, PySem.W.mg_none_of X G z_len, PySem.W.mg_none_of X G z_list, PySem.W.mg_none_of X G z_max, PySem.W.mg_none_of X G z_min, PySem.W.mg_none_of X G z_range, PySem.W.mg_none_of X G z_repr, PySem.W.mg_none_of X G z_str, PySem.W.mg_none_of X G z_tuple, gval_str (PySem.W.mg_of X G g_CAPITALS) rfl, gval_str (PySem.W.mg_of X G g_LETTERS) rfl, gval_int (PySem.W.mg_of X G g_MOST_CAPITALS), gval_int (PySem.W.mg_of X G g_MOST_LETTERS), gval_int (PySem.W.mg_of X G g_MOST_WORDS), gval_ref (PySem.W.mg_of X G g_STARTS) fun _ _ => (rel_kt (its := [(Value.str "root" tk_gSTARTS_0), (Value.str "here" tk_gSTARTS_1), (Value.str "there" tk_gSTARTS_2)]) (vs := [(V.str "root"), (V.str "here"), (V.str "there")]) l_gSTARTS rfl rfl (.cons ⟨_, rfl⟩ (.cons ⟨_, rfl⟩ (.cons ⟨_, rfl⟩ .nil))) (RelL.cons (rel_str (len_le (of_decide_eq_true rfl))) (RelL.cons (rel_str (len_le (of_decide_eq_true rfl))) (RelL.cons (rel_str (len_le (of_decide_eq_true rfl))) RelL.nil))) rfl), gval_str (PySem.W.mg_of X G g_THERE) rfl⟩
  refine ⟨PySem.W.fnOf "law" "law" (defArgs st_law) (defBody st_law) (defScope st_law) .none kV_law dc_law pm_law an_law cd_law ct_law, ⟨K, fun _ => 0, fun _ => 0⟩, rfl, fun s u => .of_eq rfl, fun base _ _ => ?_⟩
  have G_is_integer := ok_is_integer (P := P) (w := w) (base := base) (C := ⟨K, fun _ => 0, fun _ => 0⟩) TT  FD_is_integer
  have c_is_integer_1 : CallOk (⟨K, fun _ => 0, fun _ => 0⟩ : Ctx) P w mg base CX0 1 "is_integer" 1 F_is_integer [] := callOk0 (qual := "is_integer") FD_is_integer M_is_integer G_is_integer b_c_is_integer_1
  have G_is_count := ok_is_count (P := P) (w := w) (base := base) (C := ⟨K, fun _ => 0, fun _ => 0⟩) TT c_is_integer_1 FD_is_count
  have c_is_count_1 : CallOk (⟨K, fun _ => 0, fun _ => 0⟩ : Ctx) P w mg base CX0 2 "is_count" 1 F_is_count [] := callOk0 (qual := "is_count") FD_is_count M_is_count G_is_count b_c_is_count_1
  have G_is_made_of := ok_is_made_of (P := P) (w := w) (base := base) (C := ⟨K, fun _ => 0, fun _ => 0⟩) TT  FD_is_made_of
  have c_is_made_of_3 : CallOk (⟨K, fun _ => 0, fun _ => 0⟩ : Ctx) P w mg base CX0 1 "is_made_of" 3 F_is_made_of [] := callOk0 (qual := "is_made_of") FD_is_made_of M_is_made_of G_is_made_of b_c_is_made_of_3
  have G_is_name := ok_is_name (P := P) (w := w) (base := base) (C := ⟨K, fun _ => 0, fun _ => 0⟩) TT c_is_made_of_3 FD_is_name
  have c_is_name_1 : CallOk (⟨K, fun _ => 0, fun _ => 0⟩ : Ctx) P w mg base CX0 2 "is_name" 1 F_is_name [] := callOk0 (qual := "is_name") FD_is_name M_is_name G_is_name b_c_is_name_1
  have G_is_parameter := ok_is_parameter (P := P) (w := w) (base := base) (C := ⟨K, fun _ => 0, fun _ => 0⟩) TT c_is_made_of_3 FD_is_parameter
  have c_is_parameter_1 : CallOk (⟨K, fun _ => 0, fun _ => 0⟩ : Ctx) P w mg base CX0 2 "is_parameter" 1 F_is_parameter [] := callOk0 (qual := "is_parameter") FD_is_parameter M_is_parameter G_is_parameter b_c_is_parameter_1
  have G_is_place := ok_is_place (P := P) (w := w) (base := base) (C := ⟨K, fun _ => 0, fun _ => 0⟩) TT c_is_count_1 FD_is_place
  have c_is_place_1 : CallOk (⟨K, fun _ => 0, fun _ => 0⟩ : Ctx) P w mg base CX0 3 "is_place" 1 F_is_place [] := callOk0 (qual := "is_place") FD_is_place M_is_place G_is_place b_c_is_place_1
  have G_is_word := ok_is_word (P := P) (w := w) (base := base) (C := ⟨K, fun _ => 0, fun _ => 0⟩) TT c_is_name_1 FD_is_word
  have c_is_word_2 : CallOk (⟨K, fun _ => 0, fun _ => 0⟩ : Ctx) P w mg base CX0 3 "is_word" 2 F_is_word [] := callOkD (qual := "is_word") (ws := []) FD_is_word M_is_word G_is_word b_c_is_word_2 fun _ _ => RelL.nil
  have c_is_word_1 : CallOk (⟨K, fun _ => 0, fun _ => 0⟩ : Ctx) P w mg base CX0 3 "is_word" 2 F_is_word [(.tup [])] := callOkD (qual := "is_word") (ws := [(V.ref T_d0_is_word)]) FD_is_word M_is_word G_is_word b_c_is_word_1 fun _ _ => (RelL.cons (rel_kt (its := []) (vs := []) l_d0_is_word rfl rfl .nil RelL.nil rfl) RelL.nil)
  have G_is_path := ok_is_path (P := P) (w := w) (base := base) (C := ⟨K, fun _ => 0, fun _ => 0⟩) TT c_is_word_2 FD_is_path
  have c_is_path_2 : CallOk (⟨K, fun _ => 0, fun _ => 0⟩ : Ctx) P w mg base CX0 4 "is_path" 3 F_is_path [(.bl false)] := callOkD (qual := "is_path") (ws := [(V.bl false)]) FD_is_path M_is_path G_is_path b_c_is_path_2 fun _ _ => (RelL.cons rel_bl RelL.nil)
  have c_is_path_1 : CallOk (⟨K, fun _ => 0, fun _ => 0⟩ : Ctx) P w mg base CX0 4 "is_path" 3 F_is_path [(.tup []), (.bl false)] := callOkD (qual := "is_path") (ws := [(V.ref T_d0_is_path), (V.bl false)]) FD_is_path M_is_path G_is_path b_c_is_path_1 fun _ _ => (RelL.cons (rel_kt (its := []) (vs := []) l_d0_is_path rfl rfl .nil RelL.nil rfl) (RelL.cons rel_bl RelL.nil))
  have cgk_is_path_2_in_macro : CallKw (⟨K, fun _ => 0, fun _ => 0⟩ : Ctx) P w mg base CX0 4 "is_path" 3 F_is_path 2 ["in_macro"] gk_is_path_2_in_macro := callKwD (qual := "is_path") (g := fun us its mv ws => us ++ (its.drop 1 ++ ws)) FD_is_path M_is_path G_is_path b_cgk_is_path_2_in_macro fun _ _ _ _ _ _ r q => r.append (RelL.append RelL.nil q)
  have cgk_is_path_1_in_macro : CallKw (⟨K, fun _ => 0, fun _ => 0⟩ : Ctx) P w mg base CX0 4 "is_path" 3 F_is_path 1 ["in_macro"] gk_is_path_1_in_macro := callKwD (qual := "is_path") (g := fun us its mv ws => us ++ (its.drop 0 ++ ws)) FD_is_path M_is_path G_is_path b_cgk_is_path_1_in_macro fun _ _ _ _ _ _ r q => r.append (RelL.append (RelL.cons (rel_kt (its := []) (vs := []) l_d0_is_path rfl rfl .nil RelL.nil rfl) RelL.nil) q)
  have G__law_rng := ok__law_rng (P := P) (w := w) (base := base) (C := ⟨K, fun _ => 0, fun _ => 0⟩) TT  FD__law_rng
  have c__law_rng_2 : CallOk (⟨K, fun _ => 0, fun _ => 0⟩ : Ctx) P w mg base CX0 1 "_law_rng" 2 F__law_rng [] := callOk0 (qual := "_law_rng") FD__law_rng M__law_rng G__law_rng b_c__law_rng_2
  have G__law_draw := ok__law_draw (P := P) (w := w) (base := base) (C := ⟨K, fun _ => 0, fun _ => 0⟩) TT  FD__law_draw
  have c__law_draw_2 : CallOk (⟨K, fun _ => 0, fun _ => 0⟩ : Ctx) P w mg base CX0 1 "_law_draw" 2 F__law_draw [] := callOk0 (qual := "_law_draw") FD__law_draw M__law_draw G__law_draw b_c__law_draw_2
  have G__law_choice := ok__law_choice (P := P) (w := w) (base := base) (C := ⟨K, fun _ => 0, fun _ => 0⟩) TT c__law_draw_2 FD__law_choice
  have c__law_choice_2 : CallOk (⟨K, fun _ => 0, fun _ => 0⟩ : Ctx) P w mg base CX0 2 "_law_choice" 2 F__law_choice [] := callOk0 (qual := "_law_choice") FD__law_choice M__law_choice G__law_choice b_c__law_choice_2
  have G__law_shuffled := ok__law_shuffled (P := P) (w := w) (base := base) (C := ⟨K, fun _ => 0, fun _ => 0⟩) TT c__law_draw_2 FD__law_shuffled
  have c__law_shuffled_2 : CallOk (⟨K, fun _ => 0, fun _ => 0⟩ : Ctx) P w mg base CX0 2 "_law_shuffled" 2 F__law_shuffled [] := callOk0 (qual := "_law_shuffled") FD__law_shuffled M__law_shuffled G__law_shuffled b_c__law_shuffled_2
  have G__law_is_whole := ok__law_is_whole (P := P) (w := w) (base := base) (C := ⟨K, fun _ => 0, fun _ => 0⟩) TT  FD__law_is_whole
  have c__law_is_whole_1 : CallOk (⟨K, fun _ => 0, fun _ => 0⟩ : Ctx) P w mg base CX0 1 "_law_is_whole" 1 F__law_is_whole [] := callOk0 (qual := "_law_is_whole") FD__law_is_whole M__law_is_whole G__law_is_whole b_c__law_is_whole_1
  have G__law_is_spelled := ok__law_is_spelled (P := P) (w := w) (base := base) (C := ⟨K, fun _ => 0, fun _ => 0⟩) TT  FD__law_is_spelled
  have c__law_is_spelled_3 : CallOk (⟨K, fun _ => 0, fun _ => 0⟩ : Ctx) P w mg base CX0 1 "_law_is_spelled" 3 F__law_is_spelled [] := callOk0 (qual := "_law_is_spelled") FD__law_is_spelled M__law_is_spelled G__law_is_spelled b_c__law_is_spelled_3
  have G__law_is_small := ok__law_is_small (P := P) (w := w) (base := base) (C := ⟨K, fun _ => 0, fun _ => 0⟩) TT c__law_is_spelled_3 FD__law_is_small
  have c__law_is_small_1 : CallOk (⟨K, fun _ => 0, fun _ => 0⟩ : Ctx) P w mg base CX0 2 "_law_is_small" 1 F__law_is_small [] := callOk0 (qual := "_law_is_small") FD__law_is_small M__law_is_small G__law_is_small b_c__law_is_small_1
  have G__law_is_great := ok__law_is_great (P := P) (w := w) (base := base) (C := ⟨K, fun _ => 0, fun _ => 0⟩) TT c__law_is_spelled_3 FD__law_is_great
  have c__law_is_great_1 : CallOk (⟨K, fun _ => 0, fun _ => 0⟩ : Ctx) P w mg base CX0 2 "_law_is_great" 1 F__law_is_great [] := callOk0 (qual := "_law_is_great") FD__law_is_great M__law_is_great G__law_is_great b_c__law_is_great_1
  have G__law_is_fit := ok__law_is_fit (P := P) (w := w) (base := base) (C := ⟨K, fun _ => 0, fun _ => 0⟩) TT c__law_is_small_1 c__law_is_great_1 FD__law_is_fit
  have c__law_is_fit_2 : CallOk (⟨K, fun _ => 0, fun _ => 0⟩ : Ctx) P w mg base CX0 3 "_law_is_fit" 2 F__law_is_fit [] := callOk0 (qual := "_law_is_fit") FD__law_is_fit M__law_is_fit G__law_is_fit b_c__law_is_fit_2
  have G__law_is_way := ok__law_is_way (P := P) (w := w) (base := base) (C := ⟨K, fun _ => 0, fun _ => 0⟩) TT c__law_is_fit_2 FD__law_is_way
  have c__law_is_way_4 : CallOk (⟨K, fun _ => 0, fun _ => 0⟩ : Ctx) P w mg base CX0 4 "_law_is_way" 4 F__law_is_way [] := callOk0 (qual := "_law_is_way") FD__law_is_way M__law_is_way G__law_is_way b_c__law_is_way_4
  have G__law_is_spot := ok__law_is_spot (P := P) (w := w) (base := base) (C := ⟨K, fun _ => 0, fun _ => 0⟩) TT c__law_is_whole_1 FD__law_is_spot
  have c__law_is_spot_1 : CallOk (⟨K, fun _ => 0, fun _ => 0⟩ : Ctx) P w mg base CX0 2 "_law_is_spot" 1 F__law_is_spot [] := callOk0 (qual := "_law_is_spot") FD__law_is_spot M__law_is_spot G__law_is_spot b_c__law_is_spot_1
  have G__law_text := ok__law_text (P := P) (w := w) (base := base) (C := ⟨K, fun _ => 0, fun _ => 0⟩) TT c__law_draw_2 c__law_choice_2 FD__law_text
  have c__law_text_1 : CallOk (⟨K, fun _ => 0, fun _ => 0⟩ : Ctx) P w mg base CX0 3 "_law_text" 1 F__law_text [] := callOk0 (qual := "_law_text") FD__law_text M__law_text G__law_text b_c__law_text_1
  have G__law_odd := ok__law_odd (P := P) (w := w) (base := base) (C := ⟨K, fun _ => 0, fun _ => 0⟩) TT c__law_choice_2 FD__law_odd
  have c__law_odd_1 : CallOk (⟨K, fun _ => 0, fun _ => 0⟩ : Ctx) P w mg base CX0 3 "_law_odd" 1 F__law_odd [] := callOk0 (qual := "_law_odd") FD__law_odd M__law_odd G__law_odd b_c__law_odd_1
  have G__law_value := ok__law_value (P := P) (w := w) (base := base) (C := ⟨K, fun _ => 0, fun _ => 0⟩) TT c__law_draw_2 c__law_odd_1 c__law_text_1 c__law_choice_2 FD__law_value
  have c__law_value_2 : CallOk (⟨K, fun _ => 0, fun _ => 0⟩ : Ctx) P w mg base CX0 4 "_law_value" 2 F__law_value [] := callOk0 (qual := "_law_value") FD__law_value M__law_value G__law_value b_c__law_value_2
  have G__law_is_right := ok__law_is_right (P := P) (w := w) (base := base) (C := ⟨K, fun _ => 0, fun _ => 0⟩) TT c__law_is_small_1 c__law_is_spot_1 c__law_is_great_1 c__law_is_way_4 c__law_is_fit_2 c_is_word_1 c_is_place_1 c_is_parameter_1 c_is_name_1 c_is_path_2 c_is_path_1 c_is_word_2 cgk_is_path_2_in_macro cgk_is_path_1_in_macro FD__law_is_right
  have c__law_is_right_2 : CallOk (⟨K, fun _ => 0, fun _ => 0⟩ : Ctx) P w mg base CX0 5 "_law_is_right" 2 F__law_is_right [] := callOk0 (qual := "_law_is_right") FD__law_is_right M__law_is_right G__law_is_right b_c__law_is_right_2
  have G__law_right := ok__law_right (P := P) (w := w) (base := base) (C := ⟨K, fun _ => 0, fun _ => 0⟩) TT c__law_shuffled_2 c__law_draw_2 c__law_is_right_2 c__law_value_2 FD__law_right
  have c__law_right_1 : CallOk (⟨K, fun _ => 0, fun _ => 0⟩ : Ctx) P w mg base CX0 6 "_law_right" 1 F__law_right [] := callOk0 (qual := "_law_right") FD__law_right M__law_right G__law_right b_c__law_right_1
  have G_law := ok_law (P := P) (w := w) (base := base) (C := ⟨K, fun _ => 0, fun _ => 0⟩) TT c__law_right_1 c__law_rng_2 FD_law
  exact G_law
end EV


open PySem PySem.W PyProof.Rows in
set_option maxRecDepth 100000 in
set_option maxHeartbeats 0 in
theorem PySem.Challenge.cw_evermeant_k11_names_words_places_paths_holds : PySem.Challenge.rw_evermeant_k11_names_words_places_paths.Holds := by
  w_on; o_law; k_head; (case hw => w_witness2)
  k_fill
  refine EV.walk_G (l := PySem.Challenge.rw_evermeant_k11_names_words_places_paths) (n := 63) (k := 7) (x := "_law_script") (CX := fun _ => L2.CX0) (F := fun _ => EV.F_law) rfl (by decide) rfl ⟨rfl, by decide, by decide⟩ (fun w h Y => PySem.W.kIn_of Y) ?F ?hF ?hCX
  case hCX => exact fun _ _ _ _ _ z => z
  case hF => exact fun _ ns hn => EV.law_true ns hn
  case F =>
    intro w mg fa h KX G hmg
    refine' EV.all_mk KX G hmg ?z_abs ?z_all ?z_bool ?z_divmod ?z_int ?z_isinstance ?z_len ?z_list ?z_max ?z_min ?z_range ?z_repr ?z_str ?z_tuple ?g_CAPITALS ?g_LETTERS ?g_MOST_CAPITALS ?g_MOST_LETTERS ?g_MOST_WORDS ?g_STARTS ?l_gSTARTS ?g_THERE ?a_is_integer ?l_is_integer ?c_is_integer ?k_is_integer ?a_is_count ?l_is_count ?c_is_count ?k_is_count ?a_is_made_of ?l_is_made_of ?c_is_made_of ?k_is_made_of ?a_is_name ?l_is_name ?c_is_name ?k_is_name ?a_is_parameter ?l_is_parameter ?c_is_parameter ?k_is_parameter ?a_is_place ?l_is_place ?c_is_place ?k_is_place ?a_is_word ?l_is_word ?c_is_word ?k_is_word ?t_is_word ?l_d0_is_word ?a_is_path ?l_is_path ?c_is_path ?k_is_path ?t_is_path ?l_d0_is_path ?q0_is_path ?a__law_rng ?l__law_rng ?c__law_rng ?k__law_rng ?a__law_draw ?l__law_draw ?c__law_draw ?k__law_draw ?a__law_choice ?l__law_choice ?c__law_choice ?k__law_choice ?a__law_shuffled ?l__law_shuffled ?c__law_shuffled ?k__law_shuffled ?a__law_is_whole ?l__law_is_whole ?c__law_is_whole ?k__law_is_whole ?a__law_is_spelled ?l__law_is_spelled ?c__law_is_spelled ?k__law_is_spelled ?a__law_is_small ?l__law_is_small ?c__law_is_small ?k__law_is_small ?a__law_is_great ?l__law_is_great ?c__law_is_great ?k__law_is_great ?a__law_is_fit ?l__law_is_fit ?c__law_is_fit ?k__law_is_fit ?a__law_is_way ?l__law_is_way ?c__law_is_way ?k__law_is_way ?a__law_is_spot ?l__law_is_spot ?c__law_is_spot ?k__law_is_spot ?a__law_text ?l__law_text ?c__law_text ?k__law_text ?a__law_odd ?l__law_odd ?c__law_odd ?k__law_odd ?a__law_value ?l__law_value ?c__law_value ?k__law_value ?a__law_is_right ?l__law_is_right ?c__law_is_right ?k__law_is_right ?a__law_right ?l__law_right ?c__law_right ?k__law_right ?a_law ?l_law ?c_law ?k_law
    (case z_abs => k_is)
    (case z_all => k_is)
    (case z_bool => k_is)
    (case z_divmod => k_is)
    (case z_int => k_is)
    (case z_isinstance => k_is)
    (case z_len => k_is)
    (case z_list => k_is)
    (case z_max => k_is)
    (case z_min => k_is)
    (case z_range => k_is)
    (case z_repr => k_is)
    (case z_str => k_is)
    (case z_tuple => k_is)
    (case g_CAPITALS => k_is)
    (case g_LETTERS => k_is)
    (case g_MOST_CAPITALS => k_is)
    (case g_MOST_LETTERS => k_is)
    (case g_MOST_WORDS => k_is)
    (case g_STARTS => k_is)
    (case l_gSTARTS => k_is)
    (case g_THERE => k_is)
    (case a_is_integer => k_is)
    (case l_is_integer => k_is)
    (case c_is_integer => k_is)
    (case k_is_integer => k_is)
    (case a_is_count => k_is)
    (case l_is_count => k_is)
    (case c_is_count => k_is)
    (case k_is_count => k_is)
    (case a_is_made_of => k_is)
    (case l_is_made_of => k_is)
    (case c_is_made_of => k_is)
    (case k_is_made_of => k_is)
    (case a_is_name => k_is)
    (case l_is_name => k_is)
    (case c_is_name => k_is)
    (case k_is_name => k_is)
    (case a_is_parameter => k_is)
    (case l_is_parameter => k_is)
    (case c_is_parameter => k_is)
    (case k_is_parameter => k_is)
    (case a_is_place => k_is)
    (case l_is_place => k_is)
    (case c_is_place => k_is)
    (case k_is_place => k_is)
    (case a_is_word => k_is)
    (case l_is_word => k_is)
    (case c_is_word => k_is)
    (case k_is_word => k_is)
    (case t_is_word => k_is)
    (case l_d0_is_word => k_is)
    (case a_is_path => k_is)
    (case l_is_path => k_is)
    (case c_is_path => k_is)
    (case k_is_path => k_is)
    (case t_is_path => k_is)
    (case l_d0_is_path => k_is)
    (case q0_is_path => k_is)
    (case a__law_rng => k_is)
    (case l__law_rng => k_is)
    (case c__law_rng => k_is)
    (case k__law_rng => k_is)
    (case a__law_draw => k_is)
    (case l__law_draw => k_is)
    (case c__law_draw => k_is)
    (case k__law_draw => k_is)
    (case a__law_choice => k_is)
    (case l__law_choice => k_is)
    (case c__law_choice => k_is)
    (case k__law_choice => k_is)
    (case a__law_shuffled => k_is)
    (case l__law_shuffled => k_is)
    (case c__law_shuffled => k_is)
    (case k__law_shuffled => k_is)
    (case a__law_is_whole => k_is)
    (case l__law_is_whole => k_is)
    (case c__law_is_whole => k_is)
    (case k__law_is_whole => k_is)
    (case a__law_is_spelled => k_is)
    (case l__law_is_spelled => k_is)
    (case c__law_is_spelled => k_is)
    (case k__law_is_spelled => k_is)
    (case a__law_is_small => k_is)
    (case l__law_is_small => k_is)
    (case c__law_is_small => k_is)
    (case k__law_is_small => k_is)
    (case a__law_is_great => k_is)
    (case l__law_is_great => k_is)
    (case c__law_is_great => k_is)
    (case k__law_is_great => k_is)
    (case a__law_is_fit => k_is)
    (case l__law_is_fit => k_is)
    (case c__law_is_fit => k_is)
    (case k__law_is_fit => k_is)
    (case a__law_is_way => k_is)
    (case l__law_is_way => k_is)
    (case c__law_is_way => k_is)
    (case k__law_is_way => k_is)
    (case a__law_is_spot => k_is)
    (case l__law_is_spot => k_is)
    (case c__law_is_spot => k_is)
    (case k__law_is_spot => k_is)
    (case a__law_text => k_is)
    (case l__law_text => k_is)
    (case c__law_text => k_is)
    (case k__law_text => k_is)
    (case a__law_odd => k_is)
    (case l__law_odd => k_is)
    (case c__law_odd => k_is)
    (case k__law_odd => k_is)
    (case a__law_value => k_is)
    (case l__law_value => k_is)
    (case c__law_value => k_is)
    (case k__law_value => k_is)
    (case a__law_is_right => k_is)
    (case l__law_is_right => k_is)
    (case c__law_is_right => k_is)
    (case k__law_is_right => k_is)
    (case a__law_right => k_is)
    (case l__law_right => k_is)
    (case c__law_right => k_is)
    (case k__law_right => k_is)
    (case a_law => k_is)
    (case l_law => k_is)
    (case c_law => k_is)
    (case k_law => k_is)
    all_goals exact default
