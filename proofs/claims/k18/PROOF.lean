import PyProof.Rows.All
import HandS.ForMost
import HandS.ExcInit
import HandS.ExcValue
import HandS.Lambda
import HandS.ForExc
import HandS.Flow
import HandS.TupAny
import HandS.TupMul
import HandS.IsInst
import HandS.Star
import HandS.NoneIn
import KE.KUnpackStar
import HandS.Defaults
import HandS.CallSlots
import HandS.Ends
import HandS.Style
import KE.KDictZip
import KE.GoesEnum
import HandS.CallLocal
import HandS.SortOrd
import HandS.TupSets
import HandS.Conv
import KE.KDictCopyH
import Open.Gens
import HandS.GenList
import HandS.ClsMeth
import OpenK.KMake
import KE.KDictPairs
import PyProof.RulesMatch
import HandS.More
import HandS.Strs
import HandS.OwnEq
import HandS.Codes
import HandS.MakeKw
import PyProof.InstNe
import HandS.WideBits
import PyProof.FitsInt
import PyProof.Ascii
import HandS.ExcField
import HandS.ExcIs
import KE.KExcIs
import KE.KExcInit
import KE.OsRunLaw
import PySem.Challenge.RW_evermeant_k18_errors_created
set_option Elab.async false
set_option linter.all false
set_option maxRecDepth 100000
set_option autoImplicit false
namespace EV
open PySem PySem.Spec PyProof.Rows L2
/-- built-in types that are asked for -/
inductive Ty where
  | int | str | bool | tuple | list | dict
  deriving DecidableEq
def Ty.nm : Ty → String
  | .int => "int" | .str => "str" | .bool => "bool" | .tuple => "tuple" | .list => "list" | .dict => "dict"
/-- a value: data (tuples and lists that nobody changes any more are data, too), a reference to an object that changes, a def -/
inductive D where
  | non | bl (b : Bool) | int (i : Int) | str (s : Str)
  | tup (xs : List D) | lst (xs : List D)
  /-- a tuple of the written part -/
  | ktup (xs : List D)
  | ref (n : Nat)
  | fn (n : Nat)
  | ty (t : Ty)
  | cl (n : Nat)
  /-- the law's script -/
  | scr (ns : List Int)
  /-- a dict that nobody changes any more: its keys, their values -/
  | dic (ks : List Key) (vs : List D)
  /-- .. whose keys are tuples -/
  | dct (ks : List (List Key)) (vs : List D)
  /-- an error of the class c, as a value: its attributes -/
  | exn (c : Nat) (fs : List Str) (vs : List D)
  /-- a def that was made on the way, at f: its code object, its name; σ: the maker's values, of which ds (at the places is) are captured -/
  | clo (f c : Addr) (q : Str) (σ : List (Option V)) (is : List Nat) (ds : List D)
/-- an object that changes -/
inductive MO where
  | lst (xs : List D)
  | dic (ks : List Key) (vs : List D)
  | dct (ks : List (List Key)) (vs : List D)
  /-- an instance of the class c: its attributes -/
  | ins (c : Nat) (fs : List Str) (vs : List D)
  | dead
abbrev Hd := List MO
/-- an error of the program: its class's number, its fields -/
structure Exn where
  cls : Nat
  fs : List (Str × D)
inductive Res (α : Type) where
  | ok (a : α) (h : Hd)
  | exc (e : Exn) (h : Hd)
  | bad
abbrev Env := List (Option D)
abbrev M (α : Type) := Env → Hd → Res α
@[inline] def Res.bind {α β : Type} : Res α → (α → Hd → Res β) → Res β
  | .ok a h, f => f a h
  | .exc e h, _ => .exc e h
  | .bad, _ => .bad
@[simp] theorem Res.bind_ok {α β : Type} (a : α) (h : Hd) (f : α → Hd → Res β) : (Res.ok a h).bind f = f a h := rfl
@[simp] theorem Res.bind_bad {α β : Type} (f : α → Hd → Res β) : (Res.bad : Res α).bind f = .bad := rfl
@[simp] theorem Res.bind_exc {α β : Type} (e : Exn) (h : Hd) (f : α → Hd → Res β) : (Res.exc e h : Res α).bind f = .exc e h := rfl
/-- where the program's defs and classes stand; tab: tables of code objects, the name that they bear -/
structure Ctx where
  K : PySem.W.Frag
  fa : Nat → Addr
  ca : Nat → Addr
  tab : List (Addr × Str)
/-- where the objects that change stand (none: it changes no more); lists that are being made, out of sight -/
structure Rho where
  r : List (Option Addr)
  hid : List Addr
/-- no object that changes stands at a -/
def Unr (ρ : Rho) (a : Addr) : Prop := ∀ n : Nat, ρ.r[n]? ≠ some (some a)
def Unm (ρ : Rho) (a : Addr) : Prop := Unr ρ a ∧ a ∉ ρ.hid
/-- not a table of code objects -/
def NoT (o : HO) : Prop := ∀ ps, o ≠ .tbl ps
/-- .. and no object by its own rule -/
def Pln (o : HO) : Prop := NoT o ∧ (∀ φ, o ≠ .ext φ) ∧ ∀ xs, o ≠ .tup xs
theorem noT_lst {xs : List V} : NoT (.lst xs) := fun _ z => nomatch z
theorem noT_tup {xs : List V} : NoT (.tup xs) := fun _ z => nomatch z
theorem noT_dK {xs : List (Key × V)} : NoT (.dK xs) := fun _ z => nomatch z
theorem noT_dT {xs : List (List Key × V)} : NoT (.dT xs) := fun _ z => nomatch z
theorem noT_frz {o : Obj} {u : HO} : NoT (.frz o u) := fun _ z => nomatch z
theorem noT_ext {φ : Heap → Prop} : NoT (.ext φ) := fun _ z => nomatch z
theorem noT_xd {fs : List (Str × V)} : NoT (.xd fs) := fun _ z => nomatch z
theorem pln_lst {xs : List V} : Pln (.lst xs) := ⟨noT_lst, (fun _ z => nomatch z), fun _ z => nomatch z⟩
theorem pln_dK {xs : List (Key × V)} : Pln (.dK xs) := ⟨noT_dK, (fun _ z => nomatch z), fun _ z => nomatch z⟩
theorem pln_dT {xs : List (List Key × V)} : Pln (.dT xs) := ⟨noT_dT, (fun _ z => nomatch z), fun _ z => nomatch z⟩
theorem pln_ins {C dx : Addr} {fs : List (Str × V)} : Pln (.ins C dx fs) := ⟨(fun _ z => nomatch z), (fun _ z => nomatch z), fun _ z => nomatch z⟩
/-- a plain object is none of a table's -/
theorem tabS_upd {H : Hp} {P a : Addr} {q : Str} {o u : HO} (t : LamX.TabS H P q) (ha : H a = some u) (pu : Pln u) : LamX.TabS (upd H a o) P q := by
  obtain ⟨ps, h1, h2, h3⟩ := t
  refine ⟨ps, by rw [upd_ne (fun z : P = a => pu.1 ps (Option.some.inj (ha.symm.trans (by rw [← z]; exact h1))))]; exact h1, h2, fun pos cv hc => ?_⟩
  obtain ⟨c, e1, e2⟩ := h3 pos cv hc
  exact ⟨c, e1, by rw [upd_ne (fun z : c = a => pu.2.1 _ (Option.some.inj (ha.symm.trans (by rw [← z]; exact e2))))]; exact e2⟩
/-- a list, a tuple of the written part -/
def KL (K : PySem.W.Frag) (a : Addr) (xs : List V) : Prop :=
  ∃ (o : Obj) (its : Array Value) (n : Nat), K.lookup a = some o ∧ o.cls = .type "list" ∧ o.dict = none ∧ o.data = .seq its n ∧ its.size ≤ sizeLine ∧ Vals xs its.toList
def KT (K : PySem.W.Frag) (a : Addr) (xs : List V) : Prop :=
  ∃ (o : Obj) (its : Array Value) (n : Nat), K.lookup a = some o ∧ o.cls = .type "tuple" ∧ o.data = .seq its n ∧ its.size ≤ sizeLine ∧ Vals xs its.toList
def FL (C : Ctx) (ρ : Rho) (H : Hp) (a : Addr) (xs : List V) : Prop := (Rd H a (.lst xs) ∧ Unm ρ a) ∨ KL C.K a xs
def FT (C : Ctx) (ρ : Rho) (H : Hp) (a : Addr) (xs : List V) : Prop := H a = some (.tup xs) ∧ Unm ρ a
theorem FL.sq {C : Ctx} {ρ : Rho} {H : Hp} {a : Addr} {xs : List V} (h : FL C ρ H a xs) : SqL C.K H a xs := h.elim (fun h => .inl h.1) .inr
theorem FT.sq {C : Ctx} {ρ : Rho} {H : Hp} {a : Addr} {xs : List V} (h : FT C ρ H a xs) : SqT C.K H a xs := .inl (.inl h.1)
/-- a tuple that is a key: its length, the lengths of its texts -/
def KeyOk : Key → Prop
  | .inl _ => True
  | .inr s => s.length ≤ sizeLine
def KeysOk (ks : List (List Key)) : Prop := ∀ k ∈ ks, k.length ≤ sizeLine ∧ ∀ q ∈ k, KeyOk q
mutual
def Rel (C : Ctx) (ρ : Rho) (H : Hp) : D → V → Prop
  | .non, v => v = .non
  | .bl b, v => v = .bl b
  | .int i, v => v = .int i
  | .str s, v => v = .str s ∧ s.length ≤ sizeLine
  | .tup xs, v => ∃ a vs, v = .ref a ∧ FT C ρ H a vs ∧ RelL C ρ H xs vs ∧ xs.length ≤ sizeLine
  | .ktup xs, v => ∃ a vs, v = .ref a ∧ KT C.K a vs ∧ RelL C ρ H xs vs ∧ xs.length ≤ sizeLine
  | .lst xs, v => ∃ a vs, v = .ref a ∧ (H a = some (.lst vs) ∧ Unm ρ a) ∧ RelL C ρ H xs vs ∧ xs.length ≤ sizeLine
  | .ref n, v => ∃ a, v = .ref a ∧ (ρ.r[n]? = some (some a) ∨ ρ.r[n]? = some none)
  | .fn n, v => v = .ref (C.fa n)
  | .ty t, v => v = .ty t.nm
  | .cl n, v => v = .ref (C.ca n)
  | .scr ns, v => ∃ a, v = .ref a ∧ FL C ρ H a (ns.map V.int) ∧ ns.length ≤ sizeLine
  | .dic ks ds, v => ∃ a vs, v = .ref a ∧ (H a = some (.dK (ks.zip vs)) ∧ Unm ρ a) ∧ RelL C ρ H ds vs ∧ ks.length = ds.length
  | .dct ks ds, v => ∃ a vs, v = .ref a ∧ (H a = some (.dT (ks.zip vs)) ∧ Unm ρ a) ∧ RelL C ρ H ds vs ∧ ks.length = ds.length ∧ KeysOk ks
  | .exn c fs ds, v => ∃ a vs, v = .ref a ∧ Unm ρ a ∧ RelL C ρ H ds vs ∧ fs.length = ds.length ∧
      ((fs = [] ∧ H a = some (ExO (.ref (C.ca c)) a)) ∨ ∃ dx, H a = some (exo a (C.ca c) (some dx)) ∧ H dx = some (exd dx (fs.zip vs)) ∧ Unm ρ dx)
  | .clo f c q σ is ds, v => ∃ vs, v = .ref f ∧ (H c = some (LamX.CodeO c q) ∧ Unm ρ c) ∧ RelL C ρ H ds vs ∧ is.length = ds.length ∧ ∀ (j i : Nat), is[j]? = some i → ∃ w, vs[j]? = some w ∧ σ[i]? = some (some w)
def RelL (C : Ctx) (ρ : Rho) (H : Hp) : List D → List V → Prop
  | [], vs => vs = []
  | d :: ds, vs => ∃ v r, vs = v :: r ∧ Rel C ρ H d v ∧ RelL C ρ H ds r
end
/-- an object that changes, as the abstract heap has it -/
def ORel (C : Ctx) (ρ : Rho) (H : Hp) : MO → Option HO → Prop
  | .lst xs, o => ∃ vs, o = some (.lst vs) ∧ RelL C ρ H xs vs ∧ xs.length ≤ sizeLine
  | .dic ks ds, o => ∃ vs, o = some (.dK (ks.zip vs)) ∧ RelL C ρ H ds vs ∧ ks.length = ds.length
  | .dct ks ds, o => ∃ vs, o = some (.dT (ks.zip vs)) ∧ RelL C ρ H ds vs ∧ ks.length = ds.length ∧ KeysOk ks
  | .ins c fs ds, o => ∃ dx vs, o = some (.ins (C.ca c) dx (fs.zip vs)) ∧ RelL C ρ H ds vs ∧ fs.length = ds.length ∧ fs.length ≤ 900
  | .dead, _ => False
structure SimH (C : Ctx) (ρ : Rho) (H : Hp) (hd : Hd) : Prop where
  len : ρ.r.length = hd.length
  inj : ∀ (m n : Nat) (a : Addr), ρ.r[m]? = some (some a) → ρ.r[n]? = some (some a) → m = n
  at_ : ∀ (n : Nat) (a : Addr), ρ.r[n]? = some (some a) → ∃ o, hd[n]? = some o ∧ ORel C ρ H o (H a)
  live : ∀ (n : Nat) (o : MO), hd[n]? = some o → ρ.r[n]? = some none → o = .dead
  hidS : ∀ a ∈ ρ.hid, H a ≠ none
  hidT : ∀ a ∈ ρ.hid, ∀ u, H a = some u → Pln u
  apart : ∀ (n : Nat) (a : Addr), ρ.r[n]? = some (some a) → a ∉ ρ.hid
  tabs : ∀ p ∈ C.tab, LamX.TabS H p.1 p.2
/-- later: what was there and does not change is as it was -/
structure Ext (ρ ρ' : Rho) (H H' : Hp) : Prop where
  le : ρ.r.length ≤ ρ'.r.length
  old : ∀ n : Nat, n < ρ.r.length → ρ'.r[n]? = ρ.r[n]? ∨ ρ'.r[n]? = some none
  new : ∀ (n : Nat) (a : Addr), ρ.r.length ≤ n → ρ'.r[n]? = some (some a) → H a = none
  keep : ∀ a o, H a = some o → NoT o → Unr ρ a → H' a = some o
  dom : ∀ a, H' a = none → H a = none
  hid : ρ'.hid = ρ.hid
  tabs : ∀ (P : Addr) (q : Str), LamX.TabS H P q → LamX.TabS H' P q
section
variable {C : Ctx} {ρ ρ' ρ'' : Rho} {H H' H'' : Hp} {hd hd' : Hd}
theorem Ext.refl : Ext ρ ρ H H := ⟨Nat.le_refl _, fun _ _ => .inl rfl, fun n a h e => (by
  rw [List.getElem?_eq_none h] at e
  cases e), fun _ _ e _ _ => e, fun _ e => e, rfl, fun _ _ t => t⟩
theorem Unr.ext {a : Addr} {o : HO} (x : Ext ρ ρ' H H') (h : H a = some o) (f : Unr ρ a) : Unr ρ' a := by
  intro n e
  by_cases hn : n < ρ.r.length
  · rcases x.old n hn with q | q
    · rw [q] at e; exact f n e
    · rw [q] at e; cases e
  · have := x.new n a (Nat.le_of_not_lt hn) e
    rw [h] at this; cases this
theorem Unm.ext {a : Addr} {o : HO} (x : Ext ρ ρ' H H') (h : H a = some o) (f : Unm ρ a) : Unm ρ' a := ⟨f.1.ext x h, by rw [x.hid]; exact f.2⟩
theorem Ext.trans (x : Ext ρ ρ' H H') (y : Ext ρ' ρ'' H' H'') : Ext ρ ρ'' H H'' where
  le := Nat.le_trans x.le y.le
  old := fun n hn => by
    rcases y.old n (Nat.lt_of_lt_of_le hn x.le) with q | q
    · rw [q]; exact x.old n hn
    · exact .inr q
  new := fun n a hn e => by
    by_cases hm : n < ρ'.r.length
    · rcases y.old n hm with q | q
      · rw [q] at e; exact x.new n a hn e
      · rw [q] at e; cases e
    · exact x.dom a (y.new n a (Nat.le_of_not_lt hm) e)
  keep := fun a o e nt f => y.keep a o (x.keep a o e nt f) nt (f.ext x e)
  dom := fun a e => x.dom a (y.dom a e)
  hid := y.hid.trans x.hid
  tabs := fun P q t => y.tabs P q (x.tabs P q t)
/-- what a value leans on is kept -/
structure Keeps (ρ ρ' : Rho) (H H' : Hp) : Prop where
  frz : ∀ a o, H a = some o → NoT o → Unm ρ a → H' a = some o ∧ Unm ρ' a
  old : ∀ n : Nat, n < ρ.r.length → ρ'.r[n]? = ρ.r[n]? ∨ ρ'.r[n]? = some none
theorem Ext.keeps (x : Ext ρ ρ' H H') : Keeps ρ ρ' H H' := ⟨fun a o h nt f => ⟨x.keep a o h nt f.1, f.ext x h⟩, x.old⟩
theorem Keeps.trans (x : Keeps ρ ρ' H H') (y : Keeps ρ' ρ'' H' H'') (hl : ρ.r.length ≤ ρ'.r.length) : Keeps ρ ρ'' H H'' :=
  ⟨fun a o h nt f => let ⟨h1, f1⟩ := x.frz a o h nt f; y.frz a o h1 nt f1, fun n hn => by
    rcases y.old n (Nat.lt_of_lt_of_le hn hl) with q | q
    · rw [q]; exact x.old n hn
    · exact .inr q⟩
theorem Rd.keeps {a : Addr} {u : HO} (x : Keeps ρ ρ' H H') (nt : NoT u) (h : Rd H a u ∧ Unm ρ a) : Rd H' a u ∧ Unm ρ' a := by
  obtain ⟨h | ⟨o, h⟩, f⟩ := h
  · exact ⟨.inl (x.frz _ _ h nt f).1, (x.frz _ _ h nt f).2⟩
  · exact ⟨.inr ⟨o, (x.frz _ _ h noT_frz f).1⟩, (x.frz _ _ h noT_frz f).2⟩
theorem FL.keeps {a : Addr} {xs : List V} (x : Keeps ρ ρ' H H') (h : FL C ρ H a xs) : FL C ρ' H' a xs := h.elim (fun h => .inl (Rd.keeps x noT_lst h)) .inr
theorem FT.keeps {a : Addr} {xs : List V} (x : Keeps ρ ρ' H H') (h : FT C ρ H a xs) : FT C ρ' H' a xs := x.frz _ _ h.1 noT_tup h.2
mutual
theorem Rel.keeps (x : Keeps ρ ρ' H H') : ∀ (d : D) (v : V), Rel C ρ H d v → Rel C ρ' H' d v
  | .non, _, h => h
  | .bl _, _, h => h
  | .int _, _, h => h
  | .str _, _, h => by simp only [Rel] at h ⊢; exact h
  | .fn _, _, h => h
  | .ty _, _, h => h
  | .cl _, _, h => h
  | .tup xs, v, h => by
    simp only [Rel] at h ⊢
    obtain ⟨a, vs, e, f, r, z⟩ := h
    exact ⟨a, vs, e, f.keeps x, RelL.keeps x xs vs r, z⟩
  | .ktup xs, v, h => by
    simp only [Rel] at h ⊢
    obtain ⟨a, vs, e, f, r, z⟩ := h
    exact ⟨a, vs, e, f, RelL.keeps x xs vs r, z⟩
  | .lst xs, v, h => by
    simp only [Rel] at h ⊢
    obtain ⟨a, vs, e, ⟨f, g⟩, r, z⟩ := h
    exact ⟨a, vs, e, x.frz _ _ f noT_lst g, RelL.keeps x xs vs r, z⟩
  | .scr ns, v, h => by
    simp only [Rel] at h ⊢
    obtain ⟨a, e, f, z⟩ := h
    exact ⟨a, e, f.keeps x, z⟩
  | .dic ks ds, v, h => by
    simp only [Rel] at h ⊢
    obtain ⟨a, vs, e, ⟨f, g⟩, r, z⟩ := h
    exact ⟨a, vs, e, x.frz _ _ f noT_dK g, RelL.keeps x ds vs r, z⟩
  | .dct ks ds, v, h => by
    simp only [Rel] at h ⊢
    obtain ⟨a, vs, e, ⟨f, g⟩, r, z⟩ := h
    exact ⟨a, vs, e, x.frz _ _ f noT_dT g, RelL.keeps x ds vs r, z⟩
  | .exn c fs ds, v, h => by
    simp only [Rel] at h ⊢
    obtain ⟨a, vs, e, u, r, l, q⟩ := h
    rcases q with ⟨q1, q2⟩ | ⟨dx, q1, q2, q3⟩
    · exact ⟨a, vs, e, (x.frz _ _ q2 noT_ext u).2, RelL.keeps x ds vs r, l, .inl ⟨q1, (x.frz _ _ q2 noT_ext u).1⟩⟩
    · exact ⟨a, vs, e, (x.frz _ _ q1 noT_ext u).2, RelL.keeps x ds vs r, l, .inr ⟨dx, (x.frz _ _ q1 noT_ext u).1, x.frz _ _ q2 noT_ext q3⟩⟩
  | .clo f c q σ is ds, v, h => by
    simp only [Rel] at h ⊢
    obtain ⟨vs, e, ⟨h1, h2⟩, r, l, g⟩ := h
    exact ⟨vs, e, x.frz _ _ h1 noT_ext h2, RelL.keeps x ds vs r, l, g⟩
  | .ref n, v, h => by
    simp only [Rel] at h ⊢
    obtain ⟨a, e, f⟩ := h
    refine ⟨a, e, ?_⟩
    have hn : n < ρ.r.length := by
      rcases f with f | f <;> exact (List.getElem?_eq_some_iff.mp f).1
    rcases x.old n hn with q | q
    · rw [q]; exact f
    · exact .inr q
theorem RelL.keeps (x : Keeps ρ ρ' H H') : ∀ (ds : List D) (vs : List V), RelL C ρ H ds vs → RelL C ρ' H' ds vs
  | [], _, h => h
  | d :: ds, vs, h => by
    simp only [RelL] at h ⊢
    obtain ⟨v, r, e, h1, h2⟩ := h
    exact ⟨v, r, e, Rel.keeps x d v h1, RelL.keeps x ds r h2⟩
end
theorem Rel.ext (x : Ext ρ ρ' H H') (d : D) (v : V) (h : Rel C ρ H d v) : Rel C ρ' H' d v := Rel.keeps x.keeps d v h
theorem RelL.ext (x : Ext ρ ρ' H H') (ds : List D) (vs : List V) (h : RelL C ρ H ds vs) : RelL C ρ' H' ds vs := RelL.keeps x.keeps ds vs h
theorem RelL.length : ∀ {ds : List D} {vs : List V}, RelL C ρ H ds vs → ds.length = vs.length
  | [], _, h => by simp only [RelL] at h; rw [h]; rfl
  | d :: ds, vs, h => by
    simp only [RelL] at h
    obtain ⟨v, r, e, h1, h2⟩ := h
    rw [e, List.length_cons, List.length_cons, RelL.length h2]
theorem RelL.nil_iff {vs : List V} : RelL C ρ H [] vs ↔ vs = [] := by simp only [RelL]
theorem RelL.cons {d : D} {ds : List D} {v : V} {vs : List V} (h1 : Rel C ρ H d v) (h2 : RelL C ρ H ds vs) : RelL C ρ H (d :: ds) (v :: vs) := by
  simp only [RelL]; exact ⟨v, vs, rfl, h1, h2⟩
theorem RelL.nil : RelL C ρ H [] [] := by simp only [RelL]
theorem RelL.get : ∀ {ds : List D} {vs : List V} {i : Nat} {d : D}, RelL C ρ H ds vs → ds[i]? = some d → ∃ v, vs[i]? = some v ∧ Rel C ρ H d v
  | [], _, i, d, _, e => by simp at e
  | d :: ds, vs, i, d', h, e => by
    simp only [RelL] at h
    obtain ⟨v, r, rfl, h1, h2⟩ := h
    cases i with
    | zero => simp at e; subst e; exact ⟨v, by simp, h1⟩
    | succ i => 
      obtain ⟨w, q1, q2⟩ := RelL.get (i := i) h2 (by simpa using e)
      exact ⟨w, by simpa using q1, q2⟩
theorem RelL.append : ∀ {ds es : List D} {vs ws : List V}, RelL C ρ H ds vs → RelL C ρ H es ws → RelL C ρ H (ds ++ es) (vs ++ ws)
  | [], _, _, _, h, h' => by simp only [RelL] at h; subst h; exact h'
  | d :: ds, es, vs, ws, h, h' => by
    simp only [RelL] at h
    obtain ⟨v, r, rfl, h1, h2⟩ := h
    exact RelL.cons h1 (RelL.append h2 h')
theorem RelL.take : ∀ {ds : List D} {vs : List V} (n : Nat), RelL C ρ H ds vs → RelL C ρ H (ds.take n) (vs.take n)
  | [], _, n, h => by simp only [RelL] at h; subst h; simp [RelL]
  | d :: ds, vs, 0, h => by simp [RelL]
  | d :: ds, vs, n + 1, h => by
    simp only [RelL] at h
    obtain ⟨v, r, rfl, h1, h2⟩ := h
    exact RelL.cons h1 (RelL.take n h2)
theorem RelL.drop : ∀ {ds : List D} {vs : List V} (n : Nat), RelL C ρ H ds vs → RelL C ρ H (ds.drop n) (vs.drop n)
  | [], _, n, h => by simp only [RelL] at h; subst h; simp [RelL]
  | d :: ds, vs, 0, h => h
  | d :: ds, vs, n + 1, h => by
    simp only [RelL] at h
    obtain ⟨v, r, rfl, h1, h2⟩ := h
    exact RelL.drop n h2
theorem RelL.set {d : D} {v : V} (hr : Rel C ρ H d v) : ∀ {ds : List D} {vs : List V} (n : Nat), RelL C ρ H ds vs → RelL C ρ H (ds.set n d) (vs.set n v)
  | [], _, n, h => by simp only [RelL] at h; subst h; simp [RelL]
  | d' :: ds, vs, 0, h => by
    simp only [RelL] at h
    obtain ⟨w, r, rfl, h1, h2⟩ := h
    exact RelL.cons hr h2
  | d' :: ds, vs, n + 1, h => by
    simp only [RelL] at h
    obtain ⟨w, r, rfl, h1, h2⟩ := h
    exact RelL.cons h1 (RelL.set hr n h2)
theorem ORel.keeps {o : MO} {u : Option HO} (x : Keeps ρ ρ' H H') (h : ORel C ρ H o u) : ORel C ρ' H' o u := by
  cases o with
  | lst xs => obtain ⟨vs, e, r, z⟩ := h; exact ⟨vs, e, RelL.keeps x _ _ r, z⟩
  | dic ks xs => obtain ⟨vs, e, r, z⟩ := h; exact ⟨vs, e, RelL.keeps x _ _ r, z⟩
  | dct ks xs => obtain ⟨vs, e, r, z⟩ := h; exact ⟨vs, e, RelL.keeps x _ _ r, z⟩
  | ins c fs xs => obtain ⟨dx, vs, e, r, z⟩ := h; exact ⟨dx, vs, e, RelL.keeps x _ _ r, z⟩
  | dead => exact h.elim
theorem ORel.ext {o : MO} {u : Option HO} (x : Ext ρ ρ' H H') (h : ORel C ρ H o u) : ORel C ρ' H' o u := h.keeps x.keeps
/-- the frame's values -/
structure EnvRel (C : Ctx) (ρ : Rho) (H : Hp) (env : Env) (σ : L2.St) : Prop where
  len : env.length = σ.length
  at_ : ∀ (i : Nat) d, env[i]? = some (some d) → ∃ v, σ[i]? = some (some v) ∧ Rel C ρ H d v
theorem EnvRel.keeps {env : Env} {σ : L2.St} (x : Keeps ρ ρ' H H') (h : EnvRel C ρ H env σ) : EnvRel C ρ' H' env σ :=
  ⟨h.len, fun i d e => let ⟨v, e1, r⟩ := h.at_ i d e; ⟨v, e1, Rel.keeps x _ _ r⟩⟩
theorem EnvRel.ext {env : Env} {σ : L2.St} (x : Ext ρ ρ' H H') (h : EnvRel C ρ H env σ) : EnvRel C ρ' H' env σ := h.keeps x.keeps
theorem EnvRel.set {env : Env} {σ : L2.St} {d : D} {v : V} (h : EnvRel C ρ H env σ) (i : Nat) (r : Rel C ρ H d v) : EnvRel C ρ H (env.set i (some d)) (σ.set i (some v)) := by
  refine ⟨by simp [h.len], fun j e q => ?_⟩
  by_cases hj : i = j
  · subst hj
    by_cases hi : i < env.length
    · rw [List.getElem?_set_self hi] at q
      cases q
      exact ⟨v, List.getElem?_set_self (by rw [← h.len]; exact hi), r⟩
    · rw [List.getElem?_eq_none (by simpa using hi)] at q; cases q
  · rw [List.getElem?_set_ne hj] at q ⊢
    exact h.at_ j e q
/-- slots forgotten on both sides -/
theorem EnvRel.forget {env : Env} {σ : L2.St} (h : EnvRel C ρ H env σ) (i : Nat) : EnvRel C ρ H (env.set i none) (σ.set i none) := by
  refine ⟨by simp [h.len], fun j e q => ?_⟩
  by_cases hj : i = j
  · subst hj
    by_cases hi : i < env.length
    · rw [List.getElem?_set_self hi] at q; cases q
    · rw [List.getElem?_eq_none (by simpa using hi)] at q; cases q
  · rw [List.getElem?_set_ne hj] at q ⊢
    exact h.at_ j e q
end
end EV
namespace EV
open PySem PySem.Spec PyProof.Rows L2
abbrev RhoT := Rho
/-- an error's fields -/
def XRel (C : Ctx) (ρ : RhoT) (H : Hp) (x : Exn) (dd : Option Addr) : Prop :=
  ∃ a vs, dd = some a ∧ H a = some (.xd vs) ∧ vs.map (·.1) = x.fs.map (·.1) ∧ RelL C ρ H (x.fs.map (·.2)) (vs.map (·.2))
/-- what is wanted behind an evaluation -/
def PostX {α β : Type} (C : Ctx) (R : RhoT → Hp → α → β → Prop) (ρ : RhoT) (H : Hp) (W : Value → Option Addr → Hp → Prop) (Q : β → Hp → Prop) : Res α → Prop
  | .ok d hd' => ∀ ρ' H' v, Ext ρ ρ' H H' → SimH C ρ' H' hd' → R ρ' H' d v → Q v H'
  | .exc x hd' => ∀ ρ' H' dd, Ext ρ ρ' H H' → SimH C ρ' H' hd' → XRel C ρ' H' x dd → W (.ref (C.ca x.cls)) dd H'
  | .bad => False
section
variable {α β γ δ : Type} {C : Ctx} {R : RhoT → Hp → α → β → Prop} {R1 : RhoT → Hp → γ → δ → Prop} {ρ ρ' : RhoT} {H H' : Hp} {hd hd' : Hd} {W : Value → Option Addr → Hp → Prop} {Q : β → Hp → Prop}
theorem PostX.ext {r : Res α} (x : Ext ρ ρ' H H') (p : PostX C R ρ H W Q r) : PostX C R ρ' H' W Q r := by
  cases r with
  | ok d h => exact fun ρ2 H2 v y => p ρ2 H2 v (x.trans y)
  | exc d h => exact fun ρ2 H2 v y => p ρ2 H2 v (x.trans y)
  | bad => exact p
theorem PostX.imp {r : Res α} {W' : Value → Option Addr → Hp → Prop} {Q' : β → Hp → Prop} (p : PostX C R ρ H W Q r) (hQ : ∀ v H, Q v H → Q' v H) (hW : ∀ c d H, W c d H → W' c d H) : PostX C R ρ H W' Q' r := by
  cases r with
  | ok d h => exact fun ρ2 H2 v y s r => hQ _ _ (p ρ2 H2 v y s r)
  | exc d h => exact fun ρ2 H2 v y s r => hW _ _ _ (p ρ2 H2 v y s r)
  | bad => exact p
/-- the first of two -/
theorem PostX.bind {r : Res γ} {f : γ → Hd → Res α} (p : PostX C R ρ H W Q (r.bind f)) :
    PostX C R1 ρ H W (fun v H1 => ∃ ρ1 hd1 d, Ext ρ ρ1 H H1 ∧ SimH C ρ1 H1 hd1 ∧ R1 ρ1 H1 d v ∧ PostX C R ρ1 H1 W Q (f d hd1)) r := by
  cases r with
  | ok d h => exact fun ρ2 H2 v y s r => ⟨ρ2, h, d, y, s, r, PostX.ext y p⟩
  | exc d h => exact p
  | bad => exact p
theorem ORel.some_of {o : MO} {u : Option HO} (h : ORel C ρ H o u) : u ≠ none := by
  intro e
  cases o with
  | lst xs => obtain ⟨vs, z, _⟩ := h; rw [e] at z; cases z
  | dic ks xs => obtain ⟨vs, z, _⟩ := h; rw [e] at z; cases z
  | dct ks xs => obtain ⟨vs, z, _⟩ := h; rw [e] at z; cases z
  | ins c fs xs => obtain ⟨dx, vs, z, _⟩ := h; rw [e] at z; cases z
  | dead => exact h
theorem ORel.pln {o : MO} {u : HO} (h : ORel C ρ H o (some u)) : Pln u := by
  cases o with
  | lst xs => obtain ⟨vs, z, _⟩ := h; cases z; exact pln_lst
  | dic ks xs => obtain ⟨vs, z, _⟩ := h; cases z; exact pln_dK
  | dct ks xs => obtain ⟨vs, z, _⟩ := h; cases z; exact pln_dT
  | ins c fs xs => obtain ⟨dx, vs, z, _⟩ := h; cases z; exact pln_ins
  | dead => exact h.elim
theorem SimH.pln {n : Nat} {a : Addr} {u : HO} (s : SimH C ρ H hd) (h : ρ.r[n]? = some (some a)) (ha : H a = some u) : Pln u := by
  obtain ⟨o, _, q⟩ := s.at_ n a h
  rw [ha] at q
  exact q.pln
theorem SimH.unm {p : Addr} (s : SimH C ρ H hd) (hp : H p = none) : Unm ρ p := by
  refine ⟨fun n e => ?_, fun e => s.hidS p e hp⟩
  obtain ⟨o, _, q⟩ := s.at_ n p e
  exact q.some_of hp
theorem Ext.upd_new {p : Addr} {o : HO} (hp : H p = none) : Ext ρ ρ H (upd H p o) where
  le := Nat.le_refl _
  old := fun _ _ => .inl rfl
  new := fun n a h e => by rw [List.getElem?_eq_none h] at e; cases e
  keep := fun a u e _ _ => by rw [upd_ne (ne_of_none e hp)]; exact e
  dom := fun a e => by
    by_cases h : a = p
    · rw [h]; exact hp
    · rw [upd_ne h] at e; exact e
  hid := rfl
  tabs := fun P q t => t.ext fun b u e => by rw [upd_ne (ne_of_none e hp)]; exact e
theorem upd_some {p a : Addr} {o : HO} (h : H a ≠ none) : upd H p o a ≠ none := by
  by_cases q : a = p
  · rw [q, upd_same]; exact fun z => nomatch z
  · rw [upd_ne q]; exact h
theorem SimH.upd_new {p : Addr} {o : HO} (s : SimH C ρ H hd) (hp : H p = none) : SimH C ρ (upd H p o) hd where
  len := s.len
  inj := s.inj
  live := s.live
  at_ := fun n a e => by
    obtain ⟨u, h1, h2⟩ := s.at_ n a e
    have ne : a ≠ p := fun z => (s.unm hp).1 n (z ▸ e)
    exact ⟨u, h1, by rw [upd_ne ne]; exact h2.ext (Ext.upd_new hp)⟩
  hidS := fun a ha => upd_some (s.hidS a ha)
  hidT := fun a ha u => by
    rw [upd_ne fun z => s.hidS a ha (by rw [z]; exact hp)]
    exact s.hidT a ha u
  apart := s.apart
  tabs := fun q hq => (Ext.upd_new (ρ := ρ) hp).tabs _ _ (s.tabs q hq)
theorem rel_tup {xs : List D} {vs : List V} {p : Addr} (s : SimH C ρ H hd) (hp : H p = none) (r : RelL C ρ H xs vs) (z : xs.length ≤ sizeLine) : Rel C ρ (upd H p (.tup vs)) (.tup xs) (.ref p) := by
  simp only [Rel]
  exact ⟨p, vs, rfl, ⟨upd_same, s.unm hp⟩, RelL.ext (Ext.upd_new hp) _ _ r, z⟩
theorem rel_lst {xs : List D} {vs : List V} {p : Addr} (s : SimH C ρ H hd) (hp : H p = none) (r : RelL C ρ H xs vs) (z : xs.length ≤ sizeLine) : Rel C ρ (upd H p (.lst vs)) (.lst xs) (.ref p) := by
  simp only [Rel]
  exact ⟨p, vs, rfl, ⟨upd_same, s.unm hp⟩, RelL.ext (Ext.upd_new hp) _ _ r, z⟩
theorem get_snoc {l : List (Option Addr)} {x : Option Addr} {n : Nat} {y : Option Addr} (e : (l ++ [x])[n]? = some y) : l[n]? = some y ∨ (n = l.length ∧ y = x) := by
  by_cases h : n < l.length
  · rw [List.getElem?_append_left h] at e; exact .inl e
  · rw [List.getElem?_append_right (Nat.le_of_not_lt h)] at e
    have hz : n - l.length = 0 := by
      have := (List.getElem?_eq_some_iff.mp e).1
      simp at this; omega
    rw [hz] at e
    simp at e
    exact .inr ⟨by omega, e.symm⟩
abbrev Rho.push (ρ : Rho) (p : Addr) : Rho := ⟨ρ.r ++ [some p], ρ.hid⟩
theorem Ext.push {p : Addr} {o : HO} (hp : H p = none) : Ext ρ (ρ.push p) H (upd H p o) where
  le := by simp
  old := fun n h => .inl (List.getElem?_append_left h)
  new := fun n a h e => by
    rcases get_snoc e with z | ⟨_, z⟩
    · rw [List.getElem?_eq_none h] at z; cases z
    · cases z; exact hp
  keep := fun a u e _ _ => by rw [upd_ne (ne_of_none e hp)]; exact e
  dom := (Ext.upd_new (ρ := ρ) hp).dom
  hid := rfl
  tabs := (Ext.upd_new (ρ := ρ) hp).tabs
theorem SimH.pushO {p : Addr} {o : MO} {w : HO} (s : SimH C ρ H hd) (hp : H p = none) (r : ORel C ρ H o (some w)) : SimH C (ρ.push p) (upd H p w) (hd ++ [o]) where
  len := by simp [s.len]
  inj := fun m n a h1 h2 => by
    rcases get_snoc h1 with z1 | ⟨z1, z1'⟩ <;> rcases get_snoc h2 with z2 | ⟨z2, z2'⟩
    · exact s.inj m n a z1 z2
    · cases z2'; exact ((s.unm hp).1 m z1).elim
    · cases z1'; exact ((s.unm hp).1 n z2).elim
    · omega
  at_ := fun n a e => by
    rcases get_snoc e with z | ⟨z, z'⟩
    · obtain ⟨u, h1, h2⟩ := s.at_ n a z
      have ne : a ≠ p := fun q => (s.unm hp).1 n (q ▸ z)
      exact ⟨u, by rw [List.getElem?_append_left (List.getElem?_eq_some_iff.mp h1).1]; exact h1, by rw [upd_ne ne]; exact h2.ext (Ext.push hp)⟩
    · cases z'
      exact ⟨o, by rw [z, s.len]; simp, by rw [upd_same]; exact r.ext (Ext.push hp)⟩
  live := fun n o e h => by
    rcases get_snoc h with z | ⟨_, z⟩
    · have hn : n < hd.length := by rw [← s.len]; exact (List.getElem?_eq_some_iff.mp z).1
      rw [List.getElem?_append_left hn] at e
      exact s.live n o e z
    · cases z
  hidS := fun a ha => upd_some (s.hidS a ha)
  hidT := fun a ha u => by
    rw [upd_ne fun z => s.hidS a ha (by rw [z]; exact hp)]
    exact s.hidT a ha u
  apart := fun n a e ha => by
    rcases get_snoc e with z | ⟨_, z⟩
    · exact s.apart n a z ha
    · cases z; exact s.hidS p ha hp
  tabs := fun q hq => (Ext.upd_new (ρ := ρ) hp).tabs _ _ (s.tabs q hq)
theorem SimH.push {p : Addr} {xs : List D} {vs : List V} (s : SimH C ρ H hd) (hp : H p = none) (r : RelL C ρ H xs vs) (hz : xs.length ≤ sizeLine) : SimH C (ρ.push p) (upd H p (.lst vs)) (hd ++ [.lst xs]) :=
  s.pushO hp ⟨vs, rfl, r, hz⟩
theorem rel_new (s : SimH C ρ H hd) {p : Addr} {H' : Hp} : Rel C (ρ.push p) H' (.ref hd.length) (.ref p) := by
  simp only [Rel]
  exact ⟨p, rfl, .inl (by rw [← s.len]; simp)⟩
theorem Ext.store {n : Nat} {a : Addr} {o : HO} {u : HO} (h : ρ.r[n]? = some (some a)) (ha : H a = some u) (pu : Pln u := by first | exact pln_lst | exact pln_dK | exact pln_dT | exact pln_ins) : Ext ρ ρ H (upd H a o) where
  le := Nat.le_refl _
  old := fun _ _ => .inl rfl
  new := fun n a h e => by rw [List.getElem?_eq_none h] at e; cases e
  keep := fun b u e _ f => by
    have ne : b ≠ a := fun z => f n (by rw [z]; exact h)
    rw [upd_ne ne]; exact e
  dom := fun b e => by
    by_cases q : b = a
    · rw [q, upd_same] at e; cases e
    · rw [upd_ne q] at e; exact e
  hid := rfl
  tabs := fun P q t => tabS_upd t ha pu
theorem SimH.storeO {n : Nat} {a : Addr} {o : MO} {w u : HO} (s : SimH C ρ H hd) (h : ρ.r[n]? = some (some a)) (ha : H a = some u) (r : ORel C ρ H o (some w)) : SimH C ρ (upd H a w) (hd.set n o) where
  len := by simp [s.len]
  inj := s.inj
  at_ := fun m b e => by
    obtain ⟨w, h1, h2⟩ := s.at_ m b e
    by_cases q : n = m
    · subst q
      rw [h] at e; cases e
      exact ⟨o, List.getElem?_set_self (List.getElem?_eq_some_iff.mp h1).1, by rw [upd_same]; exact r.ext (Ext.store h ha (s.pln h ha))⟩
    · have ne : b ≠ a := fun z => q (s.inj n m a h (z ▸ e))
      exact ⟨w, by rw [List.getElem?_set_ne q]; exact h1, by rw [upd_ne ne]; exact h2.ext (Ext.store h ha (s.pln h ha))⟩
  live := fun m o e z => by
    by_cases q : n = m
    · subst q; rw [h] at z; cases z
    · rw [List.getElem?_set_ne q] at e; exact s.live m o e z
  hidS := fun a ha => upd_some (s.hidS a ha)
  hidT := fun b hb xs => by
    rw [upd_ne fun z => s.apart n a h (by rw [← z]; exact hb)]
    exact s.hidT b hb xs
  apart := s.apart
  tabs := fun q hq => tabS_upd (s.tabs q hq) ha (s.pln h ha)
theorem SimH.store {n : Nat} {a : Addr} {xs : List D} {vs : List V} {u : HO} (s : SimH C ρ H hd) (h : ρ.r[n]? = some (some a)) (ha : H a = some u) (r : RelL C ρ H xs vs) (hz : xs.length ≤ sizeLine) : SimH C ρ (upd H a (.lst vs)) (hd.set n (.lst xs)) :=
  s.storeO h ha ⟨vs, rfl, r, hz⟩
abbrev Rho.drop (ρ : Rho) (n : Nat) : Rho := ⟨ρ.r.set n none, ρ.hid⟩
abbrev Rho.hide (ρ : Rho) (p : Addr) : Rho := ⟨ρ.r, p :: ρ.hid⟩
theorem Keeps.hide {p : Addr} {o : HO} (hp : H p = none) : Keeps ρ (ρ.hide p) H (upd H p o) :=
  ⟨fun a u h _ f => ⟨by rw [upd_ne (ne_of_none h hp)]; exact h, f.1, fun z => by
    rcases List.mem_cons.mp z with z | z
    · exact ne_of_none h hp z
    · exact f.2 z⟩, fun _ _ => .inl rfl⟩
theorem Keeps.unhide {p : Addr} : Keeps (ρ.hide p) ρ H H := ⟨fun a u h _ f => ⟨h, f.1, fun z => f.2 (List.mem_cons_of_mem _ z)⟩, fun _ _ => .inl rfl⟩
theorem Keeps.grow {p : Addr} {o : HO} : Keeps (ρ.hide p) (ρ.hide p) H (upd H p o) :=
  ⟨fun a u h _ f => ⟨by rw [upd_ne (fun z => f.2 (by rw [z]; exact List.mem_cons_self))]; exact h, f⟩, fun _ _ => .inl rfl⟩
theorem SimH.hide {p : Addr} {o : HO} (s : SimH C ρ H hd) (hp : H p = none) (ho : Pln o := by first | exact pln_lst | exact pln_dK | exact pln_dT | exact pln_ins) : SimH C (ρ.hide p) (upd H p o) hd where
  len := s.len
  inj := s.inj
  live := s.live
  at_ := fun n a e => by
    obtain ⟨u, h1, h2⟩ := s.at_ n a e
    have ne : a ≠ p := fun z => (s.unm hp).1 n (z ▸ e)
    exact ⟨u, h1, by rw [upd_ne ne]; exact h2.keeps (Keeps.hide hp)⟩
  hidS := fun a ha => by
    rcases List.mem_cons.mp ha with z | z
    · rw [z, upd_same]; exact fun q => nomatch q
    · exact upd_some (s.hidS a z)
  hidT := fun a ha u => by
    rcases List.mem_cons.mp ha with z | z
    · rw [z, upd_same]; exact fun q => Option.some.inj q ▸ ho
    · rw [upd_ne fun q => s.hidS a z (by rw [q]; exact hp)]
      exact s.hidT a z u
  apart := fun n a e z => by
    rcases List.mem_cons.mp z with z | z
    · exact (s.unm hp).1 n (z ▸ e)
    · exact s.apart n a e z
  tabs := fun q hq => (Ext.upd_new (ρ := ρ) hp).tabs _ _ (s.tabs q hq)
theorem SimH.grow {p : Addr} {o : HO} (s : SimH C (ρ.hide p) H hd) (ho : Pln o := by first | exact pln_lst | exact pln_dK | exact pln_dT | exact pln_ins) : SimH C (ρ.hide p) (upd H p o) hd where
  len := s.len
  inj := s.inj
  live := s.live
  at_ := fun n a e => by
    obtain ⟨u, h1, h2⟩ := s.at_ n a e
    have ne : a ≠ p := fun z => s.apart n a e (by rw [z]; exact List.mem_cons_self)
    exact ⟨u, h1, by rw [upd_ne ne]; exact h2.keeps Keeps.grow⟩
  hidS := fun a ha => upd_some (s.hidS a ha)
  hidT := fun a ha u => by
    by_cases q : a = p
    · rw [q, upd_same]; exact fun z => Option.some.inj z ▸ ho
    · rw [upd_ne q]; exact s.hidT a ha u
  apart := s.apart
  tabs := fun q hq => by
    cases e : H p with
    | none => exact (s.hidS p List.mem_cons_self e).elim
    | some u => exact tabS_upd (s.tabs q hq) e (s.hidT p List.mem_cons_self u e)
theorem SimH.unhide {p : Addr} (s : SimH C (ρ.hide p) H hd) : SimH C ρ H hd where
  len := s.len
  inj := s.inj
  live := s.live
  at_ := fun n a e => let ⟨u, h1, h2⟩ := s.at_ n a e; ⟨u, h1, h2.keeps Keeps.unhide⟩
  hidS := fun a ha => s.hidS a (List.mem_cons_of_mem _ ha)
  hidT := fun a ha => s.hidT a (List.mem_cons_of_mem _ ha)
  apart := fun n a e z => s.apart n a e (List.mem_cons_of_mem _ z)
  tabs := s.tabs
/-- a list that was made out of sight is a new object that changes -/
theorem SimH.show_ {p : Addr} {xs : List D} {vs : List V} (s : SimH C (ρ.hide p) H hd) (hu : p ∉ ρ.hid) (hr : Unr ρ p) (h : H p = some (.lst vs)) (r : RelL C (ρ.hide p) H xs vs) (hz : xs.length ≤ sizeLine) : SimH C (ρ.push p) H (hd ++ [.lst xs]) where
  len := by simp [s.len]
  inj := fun m n a h1 h2 => by
    rcases get_snoc h1 with z1 | ⟨z1, z1'⟩ <;> rcases get_snoc h2 with z2 | ⟨z2, z2'⟩
    · exact s.inj m n a z1 z2
    · cases z2'; exact (hr m z1).elim
    · cases z1'; exact (hr n z2).elim
    · omega
  at_ := fun n a e => by
    have kp : Keeps (ρ.hide p) (ρ.push p) H H := ⟨fun a u h _ f => ⟨h, fun n e => by
      rcases get_snoc e with z | ⟨_, z⟩
      · exact f.1 n z
      · cases z; exact f.2 List.mem_cons_self, fun z => f.2 (List.mem_cons_of_mem _ z)⟩, fun n h => .inl (List.getElem?_append_left h)⟩
    rcases get_snoc e with z | ⟨z, z'⟩
    · obtain ⟨u, h1, h2⟩ := s.at_ n a z
      exact ⟨u, by rw [List.getElem?_append_left (List.getElem?_eq_some_iff.mp h1).1]; exact h1, h2.keeps kp⟩
    · cases z'
      exact ⟨.lst xs, by rw [z]; show (hd ++ [MO.lst xs])[ρ.r.length]? = _; rw [show ρ.r.length = hd.length from s.len]; simp, vs, h, RelL.keeps kp _ _ r, hz⟩
  live := fun n o e h => by
    rcases get_snoc h with z | ⟨_, z⟩
    · have hn : n < hd.length := by rw [← s.len]; exact (List.getElem?_eq_some_iff.mp z).1
      rw [List.getElem?_append_left hn] at e
      exact s.live n o e z
    · cases z
  hidS := fun a ha => s.hidS a (List.mem_cons_of_mem _ ha)
  hidT := fun a ha => s.hidT a (List.mem_cons_of_mem _ ha)
  apart := fun n a e ha => by
    rcases get_snoc e with z | ⟨_, z⟩
    · exact s.apart n a z (List.mem_cons_of_mem _ ha)
    · cases z; exact hu ha
  tabs := s.tabs
/-- the list, the tuple that a value is -/
def lstOf (d : D) (h : Hd) : Option (List D) := match d with
  | .lst xs => some xs
  | .ref n => match h[n]? with
    | some (.lst xs) => some xs
    | _ => none
  | _ => none
def seqOf (d : D) (h : Hd) : Option (List D) := match d with
  | .tup xs => some xs
  | .ktup xs => some xs
  | .scr ns => some (ns.map D.int)
  | d => lstOf d h
theorem SimH.lst_at {n : Nat} {a : Addr} {xs : List D} (s : SimH C ρ H hd) (h : hd[n]? = some (.lst xs)) (f : ρ.r[n]? = some (some a) ∨ ρ.r[n]? = some none) : ρ.r[n]? = some (some a) ∧ ∃ vs, H a = some (.lst vs) ∧ RelL C ρ H xs vs ∧ xs.length ≤ sizeLine := by
  rcases f with f | f
  · obtain ⟨o, h1, h2⟩ := s.at_ n a f
    rw [h] at h1; cases h1
    exact ⟨f, h2⟩
  · have := s.live n _ h f
    cases this
theorem lst_of {d : D} {v : V} {xs : List D} (s : SimH C ρ H hd) (r : Rel C ρ H d v) (e : lstOf d hd = some xs) : ∃ a vs, v = .ref a ∧ H a = some (.lst vs) ∧ RelL C ρ H xs vs ∧ xs.length ≤ sizeLine := by
  cases d with
  | lst ys =>
    simp only [lstOf, Option.some.injEq] at e; subst e
    simp only [Rel] at r
    obtain ⟨a, vs, e, f, q⟩ := r
    exact ⟨a, vs, e, f.1, q⟩
  | ref n =>
    simp only [Rel] at r
    obtain ⟨a, e1, f⟩ := r
    simp only [lstOf] at e
    split at e
    · rename_i ys h
      cases e
      obtain ⟨_, vs, h2, h3⟩ := s.lst_at h f
      exact ⟨a, vs, e1, h2, h3⟩
    · cases e
  | _ => cases e
theorem tup_of {v : V} {xs : List D} (r : Rel C ρ H (.tup xs) v) : ∃ a vs, v = .ref a ∧ SqT C.K H a vs ∧ RelL C ρ H xs vs ∧ xs.length ≤ sizeLine := by
  simp only [Rel] at r
  obtain ⟨a, vs, e, f, q⟩ := r
  exact ⟨a, vs, e, f.sq, q⟩
theorem relL_ints : ∀ {ns : List Int}, RelL C ρ H (ns.map D.int) (ns.map V.int)
  | [] => RelL.nil
  | n :: ns => RelL.cons (by simp only [Rel]) relL_ints
theorem scr_of {v : V} {ns : List Int} (r : Rel C ρ H (.scr ns) v) : ∃ a, v = .ref a ∧ SqL C.K H a (ns.map V.int) ∧ ns.length ≤ sizeLine := by
  simp only [Rel] at r
  obtain ⟨a, e, f, q⟩ := r
  exact ⟨a, e, f.sq, q⟩
theorem seqOf_cases {d : D} {xs : List D} (e : seqOf d hd = some xs) : d = .tup xs ∨ (∃ ns, d = .scr ns ∧ xs = ns.map D.int) ∨ lstOf d hd = some xs ∨ d = .ktup xs := by
  cases d with
  | tup ys => simp only [seqOf, Option.some.injEq] at e; subst e; exact .inl rfl
  | scr ys => simp only [seqOf, Option.some.injEq] at e; subst e; exact .inr (.inl ⟨ys, rfl, rfl⟩)
  | lst ys => exact .inr (.inr (.inl e))
  | ref n => exact .inr (.inr (.inl e))
  | ktup ys => simp only [seqOf, Option.some.injEq] at e; subst e; exact .inr (.inr (.inr rfl))
  | _ => cases e
theorem seq_of {d : D} {v : V} {xs : List D} (s : SimH C ρ H hd) (r : Rel C ρ H d v) (e : seqOf d hd = some xs) : ∃ a vs, v = .ref a ∧ (SqL C.K H a vs ∨ SqT C.K H a vs) ∧ RelL C ρ H xs vs ∧ xs.length ≤ sizeLine := by
  rcases seqOf_cases e with rfl | ⟨ns, rfl, rfl⟩ | e | rfl
  · obtain ⟨a, vs, e, f, q⟩ := tup_of r; exact ⟨a, vs, e, .inr f, q⟩
  · obtain ⟨a, e, f, z⟩ := scr_of r; exact ⟨a, _, e, .inl f, relL_ints, by simpa using z⟩
  · obtain ⟨a, vs, e, f, q⟩ := lst_of s r e; exact ⟨a, vs, e, .inl (.of f), q⟩
  · simp only [Rel] at r
    obtain ⟨a, vs, e, f, q⟩ := r
    exact ⟨a, vs, e, .inr (.inr f), q⟩
end
end EV
namespace EV
open PySem PySem.Spec PyProof.Rows L2
def tE (C : Ctx) (W : WX) (m : M D) : TE := fun σ H Q => ∃ ρ env hd, EnvRel C ρ H env σ ∧ SimH C ρ H hd ∧ PostX C (Rel C) ρ H (fun c d H' => W c d σ H') Q (m env hd)
def tT (C : Ctx) (W : WX) (m : M Bool) : TT := fun σ H Q => ∃ ρ env hd, EnvRel C ρ H env σ ∧ SimH C ρ H hd ∧ PostX C (fun _ _ b b' => b' = b) ρ H (fun c d H' => W c d σ H') Q (m env hd)
def tL (C : Ctx) (W : WX) (m : M (List D)) : TA := fun σ H Q => ∃ ρ env hd, EnvRel C ρ H env σ ∧ SimH C ρ H hd ∧ PostX C (RelL C) ρ H (fun c d H' => W c d σ H') Q (m env hd)
theorem weakE {X : Cx} {e : Expr} {t t' : TE} (h : PE X e t) (w : ∀ σ H Q, t' σ H Q → t σ H Q) : PE X e t' := ⟨fun pins s σ H Q I q => h.run pins s σ H Q I (w σ H Q q)⟩
theorem weakT {X : Cx} {e : Expr} {t t' : TT} (h : PT X e t) (w : ∀ σ H Q, t' σ H Q → t σ H Q) : PT X e t' := ⟨fun pins s σ H Q I q => h.run pins s σ H Q I (w σ H Q q)⟩
theorem weakW {X : Cx} {e : Expr} {t t' : TT} (h : PW X e t) (w : ∀ σ H Q, t' σ H Q → t σ H Q) : PW X e t' := ⟨fun wh pins s σ H Q I q => h.run wh pins s σ H Q I (w σ H Q q)⟩
theorem weakA {X : Cx} {es : List Expr} {t t' : TA} (h : PA X es t) (w : ∀ σ H Q, t' σ H Q → t σ H Q) : PA X es t' := ⟨fun pos pins s σ H Q I q => h.run pos pins s σ H Q I (w σ H Q q)⟩
section
variable {C : Ctx} {W : WX} {ρ : RhoT} {H : Hp} {hd : Hd} {env : Env} {σ : L2.St} {α β : Type} {R : RhoT → Hp → α → β → Prop} {Q : β → Hp → Prop}
/-- a part is evaluated, the rest goes on -/
theorem seqE {m : M D} {f : D → Hd → Res α} {Q' : VK} (er : EnvRel C ρ H env σ) (sh : SimH C ρ H hd) (p : PostX C R ρ H (fun c d H' => W c d σ H') Q ((m env hd).bind f))
    (k : ∀ v H1 ρ1 hd1 d, Ext ρ ρ1 H H1 → EnvRel C ρ1 H1 env σ → SimH C ρ1 H1 hd1 → Rel C ρ1 H1 d v → PostX C R ρ1 H1 (fun c d H' => W c d σ H') Q (f d hd1) → Q' v H1) : tE C W m σ H Q' :=
  ⟨ρ, env, hd, er, sh, (PostX.bind (R1 := Rel C) p).imp (fun v H1 ⟨ρ1, hd1, d, x, s, r, q⟩ => k v H1 ρ1 hd1 d x (er.ext x) s r q) fun _ _ _ z => z⟩
theorem seqT {m : M Bool} {f : Bool → Hd → Res α} {Q' : Bool → Hp → Prop} (er : EnvRel C ρ H env σ) (sh : SimH C ρ H hd) (p : PostX C R ρ H (fun c d H' => W c d σ H') Q ((m env hd).bind f))
    (k : ∀ b H1 ρ1 hd1, Ext ρ ρ1 H H1 → EnvRel C ρ1 H1 env σ → SimH C ρ1 H1 hd1 → PostX C R ρ1 H1 (fun c d H' => W c d σ H') Q (f b hd1) → Q' b H1) : tT C W m σ H Q' :=
  ⟨ρ, env, hd, er, sh, (PostX.bind (R1 := fun _ _ b b' => b' = b) p).imp (fun v H1 ⟨ρ1, hd1, d, x, s, r, q⟩ => by subst r; exact k v H1 ρ1 hd1 x (er.ext x) s q) fun _ _ _ z => z⟩
theorem seqL {m : M (List D)} {f : List D → Hd → Res α} {Q' : List V → Hp → Prop} (er : EnvRel C ρ H env σ) (sh : SimH C ρ H hd) (p : PostX C R ρ H (fun c d H' => W c d σ H') Q ((m env hd).bind f))
    (k : ∀ v H1 ρ1 hd1 d, Ext ρ ρ1 H H1 → EnvRel C ρ1 H1 env σ → SimH C ρ1 H1 hd1 → RelL C ρ1 H1 d v → PostX C R ρ1 H1 (fun c d H' => W c d σ H') Q (f d hd1) → Q' v H1) : tL C W m σ H Q' :=
  ⟨ρ, env, hd, er, sh, (PostX.bind (R1 := RelL C) p).imp (fun v H1 ⟨ρ1, hd1, d, x, s, r, q⟩ => k v H1 ρ1 hd1 d x (er.ext x) s r q) fun _ _ _ z => z⟩
theorem PostX.here {W' : Value → Option Addr → Hp → Prop} {d : α} {v : β} (p : PostX C R ρ H W' Q (.ok d hd)) (sh : SimH C ρ H hd) (r : R ρ H d v) : Q v H := p ρ H v Ext.refl sh r
end
def mvar (i : Nat) : M D := fun env h => match env[i]? with
  | some (some d) => .ok d h
  | _ => .bad
def mc (d : D) : M D := fun _ h => .ok d h
section
variable {X : Cx} {C : Ctx} {W : WX} {pos : Pos}
theorem ev_var {i : Nat} {x : Str} (h : PE X (.Name x pos) (tVar i)) : PE X (.Name x pos) (tE C W (mvar i)) := weakE h fun σ H Q ⟨ρ, env, hd, er, sh, p⟩ => by
  unfold mvar at p
  split at p
  · rename_i d e
    obtain ⟨v, e1, r⟩ := er.at_ i d e
    exact ⟨v, e1, p.here sh r⟩
  · exact p.elim
/-- a constant: its value stands in every heap -/
theorem ev_const {e : Expr} {d : D} {v : V} (h : PE X e (tC v)) (hr : ∀ ρ H, Rel C ρ H d v) : PE X e (tE C W (mc d)) := weakE h fun σ H Q ⟨ρ, env, hd, er, sh, p⟩ => p.here sh (hr ρ H)
end
/-- what an operator gives: a value, or a new list of these items -/
inductive OV where
  | v (d : D) | new (xs : List D)
def PostO (C : Ctx) (ρ : RhoT) (H : Hp) (hd : Hd) (Q : VK) : Option OV → Prop
  | none => False
  | some (.v d) => ∀ H' v, Ext ρ ρ H H' → SimH C ρ H' hd → Rel C ρ H' d v → Q v H'
  | some (.new xs) => ∀ p vs, xs.length ≤ sizeLine → H p = none → RelL C ρ H xs vs → Q (.ref p) (upd H p (.lst vs))
/-- m: a list that will be changed -/
def fin (m : Bool) (r : Option OV) (h : Hd) : Res D := match r with
  | none => .bad
  | some (.v d) => .ok d h
  | some (.new xs) => if m then .ok (.ref h.length) (h ++ [.lst xs]) else .ok (.lst xs) h
theorem PostX.fin {C : Ctx} {ρ : RhoT} {H : Hp} {hd : Hd} {Q : VK} {W' : Value → Option Addr → Hp → Prop} {m : Bool} {r : Option OV} (sh : SimH C ρ H hd) (p : PostX C (Rel C) ρ H W' Q (fin m r hd)) : PostO C ρ H hd Q r := by
  cases r with
  | none => exact p
  | some o =>
    cases o with
    | v d => exact fun H' v x s r => p ρ H' v x s r
    | new xs =>
      intro a vs hz hp rl
      cases m with
      | true => exact p _ _ _ (Ext.push hp) (sh.push hp rl hz) (rel_new sh)
      | false => exact p _ _ _ (Ext.upd_new hp) (sh.upd_new hp) (rel_lst sh hp rl hz)
theorem PostO.v {C : Ctx} {ρ : RhoT} {H : Hp} {hd : Hd} {Q : VK} {d : D} {v : V} (p : PostO C ρ H hd Q (some (.v d))) (sh : SimH C ρ H hd) (r : Rel C ρ H d v) : Q v H := p H v Ext.refl sh r
abbrev Op1 := D → Hd → Option OV
abbrev Op2 := D → D → Hd → Option OV
abbrev OpN := List D → Hd → Option OV
def rO1 (C : Ctx) (f : Op1) : V → Hp → VK → Prop := fun x H Q => ∃ ρ hd dx, SimH C ρ H hd ∧ Rel C ρ H dx x ∧ PostO C ρ H hd Q (f dx hd)
def rO2 (C : Ctx) (f : Op2) : R2 := fun x y H Q => ∃ ρ hd dx dy, SimH C ρ H hd ∧ Rel C ρ H dx x ∧ Rel C ρ H dy y ∧ PostO C ρ H hd Q (f dx dy hd)
def rON (C : Ctx) (f : OpN) : List V → Hp → VK → Prop := fun xs H Q => ∃ ρ hd ds, SimH C ρ H hd ∧ RelL C ρ H ds xs ∧ PostO C ρ H hd Q (f ds hd)
def mop1 (m : Bool) (f : Op1) (a : M D) : M D := fun env h => (a env h).bind fun x h1 => fin m (f x h1) h1
def mop2 (m : Bool) (f : Op2) (a b : M D) : M D := fun env h => (a env h).bind fun x h1 => (b env h1).bind fun y h2 => fin m (f x y h2) h2
section
variable {X : Cx} {C : Ctx} {W : WX} {pos : Pos} {a b c : Expr} {ma mb mc' : M D} {m : Bool}
theorem seq_op1 {f : Op1} {σ : L2.St} {H : Hp} {Q : VK} (h : tE C W (mop1 m f ma) σ H Q) : tE C W ma σ H fun x H1 => rO1 C f x H1 Q := by
  obtain ⟨ρ, env, hd, er, sh, p⟩ := h
  exact seqE er sh p fun v H1 ρ1 hd1 d x er1 sh1 r1 p1 => ⟨ρ1, hd1, d, sh1, r1, p1.fin sh1⟩
theorem seq_op2 {f : Op2} {σ : L2.St} {H : Hp} {Q : VK} (h : tE C W (mop2 m f ma mb) σ H Q) : tE C W ma σ H fun x H1 => tE C W mb σ H1 fun y H2 => rO2 C f x y H2 Q := by
  obtain ⟨ρ, env, hd, er, sh, p⟩ := h
  exact seqE er sh p fun v H1 ρ1 hd1 d x er1 sh1 r1 p1 => seqE er1 sh1 p1 fun v2 H2 ρ2 hd2 d2 x2 er2 sh2 r2 p2 => ⟨ρ2, hd2, d, d2, sh2, Rel.ext x2 _ _ r1, r2, p2.fin sh2⟩
theorem ev_bin {op : Operator} {f : Op2} (ho : OpR X (binaryOp op) (rO2 C f)) (ha : PE X a (tE C W ma)) (hb : PE X b (tE C W mb)) : PE X (.BinOp a op b pos) (tE C W (mop2 m f ma mb)) :=
  weakE (pe_op ho ha hb) fun _ _ _ h => seq_op2 h
theorem ev_cmp {op : CmpOp} {f : Op2} (ho : OpR X (compareOp op) (rO2 C f)) (ha : PE X a (tE C W ma)) (hb : PE X b (tE C W mb)) (hm : behindInMarks op b = false) : PE X (.Compare a [op] [b] pos) (tE C W (mop2 m f ma mb)) :=
  weakE (pe_cmpR ho ha hb hm) fun _ _ _ h => seq_op2 h
theorem ev_un {op : UnaryOp} {f : Op1} (ho : UnR X (unaryOp op) (rO1 C f)) (ha : PE X a (tE C W ma)) : PE X (.UnaryOp op a pos) (tE C W (mop1 m f ma)) :=
  weakE (pe_un ho ha) fun _ _ _ h => seq_op1 h
theorem ev_ix {f : Op2} (ho : IxR X (rO2 C f)) (ha : PE X a (tE C W ma)) (hb : PE X b (tE C W mb)) (hs : PlainIx b) : PE X (.Subscript a b pos) (tE C W (mop2 m f ma mb)) :=
  weakE (pe_ix ho ha hb hs) fun _ _ _ h => seq_op2 h
end
end EV
namespace EV
open PySem PySem.Spec PyProof.Rows L2
def keyPy : Key → PyData
  | .inl i => .int i
  | .inr x => .str x
mutual
def toPy : D → Option PyData
  | .non => some .none
  | .bl b => some (.bool b)
  | .int i => some (.int i)
  | .str s => some (.str s)
  | .tup xs => (toPyL xs).map .tuple
  | .lst xs => (toPyL xs).map .list
  | .dic ks xs => (toPyL xs).map fun ps => .dict ((ks.map keyPy).zip ps)
  | .scr ns => some (.list (ns.map .int))
  | _ => none
def toPyL : List D → Option (List PyData)
  | [] => some []
  | d :: ds => match toPy d with
    | none => none
    | some p => match toPyL ds with
      | none => none
      | some ps => some (p :: ps)
end
/-- data, or a list that changes, of data -/
def toPyT (h : Hd) : D → Option PyData
  | .ref n => match h[n]? with
    | some (.lst xs) => (toPyL xs).map .list
    | some (.dic ks xs) => (toPyL xs).map fun ps => .dict ((ks.map keyPy).zip ps)
    | _ => none
  | d => toPy d
def intsOf : List D → Option (List Int)
  | [] => some []
  | .int i :: ds => (intsOf ds).map (i :: ·)
  | _ => none
def blsOf : List D → Option (List Bool)
  | [] => some []
  | .bl b :: ds => (blsOf ds).map (b :: ·)
  | _ => none
def strsOf : List D → Option (List Str)
  | [] => some []
  | .str b :: ds => (strsOf ds).map (b :: ·)
  | _ => none
def flatD : D → Bool
  | .non => true | .bl _ => true | .int _ => true | .str _ => true | _ => false
/-- == of flat values -/
def eqF : D → D → Bool
  | .non, .non => true
  | .bl a, .bl b => a == b
  | .bl a, .int b => (if a then 1 else 0) == b
  | .int a, .bl b => a == (if b then 1 else 0)
  | .int a, .int b => a == b
  | .str a, .str b => a == b
  | _, _ => false
def truth (d : D) (h : Hd) : Option Bool := match d with
  | .non => some false
  | .bl b => some b
  | .int i => some (i != 0)
  | .str s => some ((s.length : Int) != 0)
  | d => (seqOf d h).map fun xs => !xs.isEmpty
def oAdd : Op2
  | .int i, .int j, _ => some (.v (.int (i + j)))
  | .str a, .str b, _ => if a.length + b.length ≤ sizeLine then some (.v (.str (a ++ b))) else none
  | .tup a, .tup b, _ => if a.length + b.length ≤ sizeLine then some (.v (.tup (a ++ b))) else none
  | x, y, h => match lstOf x h, lstOf y h with
    | some a, some b => if a.length + b.length ≤ sizeLine then some (.new (a ++ b)) else none
    | _, _ => none
def oSub : Op2
  | .int i, .int j, _ => some (.v (.int (i - j)))
  | _, _, _ => none
def oMul : Op2
  | .int i, .int j, _ => if (-(2 ^ 64) < i ∧ i < 2 ^ 64) ∨ (-(2 ^ 64) < j ∧ j < 2 ^ 64) then some (.v (.int (i * j))) else none
  | .tup a, .int k, _ => if a ≠ [] ∧ 2 ≤ k ∧ k ≤ 1000 ∧ a.length ≤ 1000 then some (.v (.tup (List.replicate k.toNat a).flatten)) else if (a = [] ∨ k = 1) ∧ -1000 ≤ k ∧ k ≤ 1000 then some (.v (.tup a)) else none
  | x, .int k, h => match lstOf x h with
    | some a => if -(2 ^ 63) ≤ k ∧ k < 2 ^ 63 ∧ a.length * k.toNat ≤ sizeLine then some (.new (List.replicate k.toNat a).flatten) else none
    | none => none
  | _, _, _ => none
def oMod : Op2
  | .int i, .int j, _ => if 0 < j then some (.v (.int (i % j))) else none
  | _, _, _ => none
def oFdiv : Op2
  | .int i, .int j, _ => if 0 < j ∧ j < 1073741824 then some (.v (.int (i / j))) else none
  | _, _, _ => none
def oPow : Op2
  | .int i, .int j, _ => if 0 ≤ j ∧ j ≤ 1000000 ∧ i.natAbs < 2 ^ 64 then some (.v (.int (i ^ j.toNat))) else none
  | _, _, _ => none
def oCmp (p : Int → Int → Bool) : Op2
  | .int i, .int j, _ => some (.v (.bl (p i j)))
  | _, _, _ => none
abbrev oLt : Op2 := oCmp fun i j => decide (i < j)
abbrev oGt : Op2 := oCmp fun i j => decide (j < i)
/-- == by values: scalars of one kind, None, a text and a number; else data at any depth -/
def eqv (x y : D) (h : Hd) : Option Bool := match x, y with
  | .str a, .str b => some (a == b)
  | .int a, .int b => some (a == b)
  | .bl a, .bl b => some (a == b)
  | x, y => match toPyT h x, toPyT h y with
    | some p, some q => if SeqAt.shaped p = true ∧ SeqAt.shaped q = true then some (PyData.eqv p q) else none
    | _, _ => none
def oEq : Op2 := fun x y h => (eqv x y h).map fun b => .v (.bl b)
def oNe : Op2 := fun x y h => (eqv x y h).map fun b => .v (.bl !b)
def isIn (x y : D) (h : Hd) : Option Bool := match x, y with
  | .str a, .str b => some (!(Builtin.Str.occurrences b a 0 b.length 1).isEmpty)
  | x, y => match seqOf y h with
    | some ys => if flatD x = true ∧ ys.all flatD = true then some (ys.any fun y => eqF y x) else none
    | none => none
def oIn : Op2 := fun x y h => (isIn x y h).map fun b => .v (.bl b)
def oNotIn : Op2 := fun x y h => (isIn x y h).map fun b => .v (.bl !b)
def oNeg : Op1
  | .int i, _ => some (.v (.int (-i)))
  | _, _ => none
def oIx : Op2
  | .str s, .int i, _ => (atI s.cps.toList i).map fun c => .v (.str ⟨#[c]⟩)
  | x, .int i, h => match seqOf x h with
    | some xs => (atI xs i).map .v
    | none => none
  | _, _, _ => none
section
variable {X : Cx} {C : Ctx} {ρ : RhoT} {H : Hp} {hd : Hd} {pins : List (Addr × Obj)} {σ : L2.St} {s : Shared}
theorem rel_int {i : Int} : Rel C ρ H (.int i) (.int i) := by simp only [Rel]
theorem rel_bl {i : Bool} : Rel C ρ H (.bl i) (.bl i) := by simp only [Rel]
theorem rel_non : Rel C ρ H .non .non := by simp only [Rel]
theorem rel_str {x : Str} (h : x.length ≤ sizeLine) : Rel C ρ H (.str x) (.str x) := by unfold Rel; exact ⟨rfl, h⟩
theorem of_int {i : Int} {v : V} (r : Rel C ρ H (.int i) v) : v = .int i := by simpa only [Rel] using r
theorem of_bl {i : Bool} {v : V} (r : Rel C ρ H (.bl i) v) : v = .bl i := by simpa only [Rel] using r
theorem of_non {v : V} (r : Rel C ρ H .non v) : v = .non := by simpa only [Rel] using r
theorem of_str {x : Str} {v : V} (r : Rel C ρ H (.str x) v) : v = .str x ∧ x.length ≤ sizeLine := by simpa only [Rel] using r
theorem len_app (a b : Str) : (a ++ b).length = a.length + b.length := by
  show (a.cps ++ b.cps).size = a.cps.size + b.cps.size
  exact Array.size_append
theorem relL_flatten {xs : List D} {vs : List V} (r : RelL C ρ H xs vs) : ∀ k : Nat, RelL C ρ H (List.replicate k xs).flatten (List.replicate k vs).flatten
  | 0 => by simp [RelL.nil]
  | k + 1 => by
    simp only [List.replicate_succ, List.flatten_cons]
    exact r.append (relL_flatten r k)
theorem ops_add (hK : X.K = C.K) : OpR X (binaryOp .Add) (rO2 C oAdd) := by
  intro pins s σ H x y v u Q I rx ry ⟨ρ, hd, dx, dy, sh, r1, r2, p⟩
  unfold oAdd at p
  split at p
  · cases of_int r1; cases of_int r2
    exact op_add pins s σ H _ _ v u Q I rx ry ⟨_, _, rfl, rfl, p.v sh rel_int⟩
  · split at p
    · rename_i hz
      cases (of_str r1).1; cases (of_str r2).1
      exact op_add_str pins s σ H _ _ v u Q I rx ry ⟨_, _, rfl, rfl, hz, p.v sh (rel_str (by rw [len_app]; exact hz))⟩
    · exact p.elim
  · rename_i a b
    split at p
    · rename_i hz
      obtain ⟨a1, v1, rfl, t1, q1, z1⟩ := tup_of r1
      obtain ⟨a2, v2, rfl, t2, q2, z2⟩ := tup_of r2
      have l1 := q1.length
      have l2 := q2.length
      refine op_catA pins s σ H _ _ v u Q I rx ry ⟨a1, a2, v1, v2, rfl, rfl, hK ▸ t1, hK ▸ t2, by omega, fun e => ?_, fun e1 e2 => ?_, fun e1 e2 p' hp => ?_⟩
      · subst e
        have : a = [] := by simpa using l1
        subst this
        exact p H _ Ext.refl sh (by simpa using r2)
      · subst e2
        have : b = [] := by simpa using l2
        subst this
        exact p H _ Ext.refl sh (by simpa using r1)
      · exact p _ _ (Ext.upd_new hp) (sh.upd_new hp) (rel_tup sh hp (q1.append q2) (by simpa using hz))
    · exact p.elim
  · split at p
    · rename_i a b e1 e2
      split at p
      · rename_i hz
        obtain ⟨a1, v1, rfl, t1, q1, z1⟩ := lst_of sh r1 e1
        obtain ⟨a2, v2, rfl, t2, q2, z2⟩ := lst_of sh r2 e2
        have l1 := q1.length
        have l2 := q2.length
        exact op_cat pins s σ H _ _ v u Q I rx ry ⟨a1, a2, v1, v2, rfl, rfl, t1, t2, by omega, fun p' hp => p _ _ (by simpa using hz) hp (q1.append q2)⟩
      · exact p.elim
    · exact p.elim
theorem ops_sub : OpR X (binaryOp .Sub) (rO2 C oSub) := by
  intro pins s σ H x y v u Q I rx ry ⟨ρ, hd, dx, dy, sh, r1, r2, p⟩
  unfold oSub at p
  split at p
  · cases of_int r1; cases of_int r2
    exact op_sub pins s σ H _ _ v u Q I rx ry ⟨_, _, rfl, rfl, p.v sh rel_int⟩
  · exact p.elim
theorem ops_mod : OpR X (binaryOp .Mod) (rO2 C oMod) := by
  intro pins s σ H x y v u Q I rx ry ⟨ρ, hd, dx, dy, sh, r1, r2, p⟩
  unfold oMod at p
  split at p
  · split at p
    · rename_i hj
      cases of_int r1; cases of_int r2
      exact op_mod pins s σ H _ _ v u Q I rx ry ⟨_, _, rfl, rfl, hj, p.v sh rel_int⟩
    · exact p.elim
  · exact p.elim
theorem ops_fdiv : OpR X (binaryOp .FloorDiv) (rO2 C oFdiv) := by
  intro pins s σ H x y v u Q I rx ry ⟨ρ, hd, dx, dy, sh, r1, r2, p⟩
  unfold oFdiv at p
  split at p
  · split at p
    · rename_i hj
      cases of_int r1; cases of_int r2
      exact op_fdiv pins s σ H _ _ v u Q I rx ry ⟨_, _, rfl, rfl, hj, p.v sh rel_int⟩
    · exact p.elim
  · exact p.elim
theorem ops_pow : OpR X (binaryOp .Pow) (rO2 C oPow) := by
  intro pins s σ H x y v u Q I rx ry ⟨ρ, hd, dx, dy, sh, r1, r2, p⟩
  unfold oPow at p
  split at p
  · split at p
    · rename_i hj
      cases of_int r1; cases of_int r2
      exact op_pow pins s σ H _ _ v u Q I rx ry ⟨_, _, rfl, rfl, hj, p.v sh rel_int⟩
    · exact p.elim
  · exact p.elim
theorem tuple_same (l : Addr) (items : Array Value) (n : Nat) (dd : Option Addr) (sl : Array (Option Value)) (x : Int) (u : Tok) (c0 : (decide (x < -(2 ^ 63)) || decide (x ≥ 2 ^ 63)) = false) (c1 : (items.isEmpty || x == 1) = true) :
    Meets (Builtin.«tuple.__mul__» ⟨[.ref l, .int x u], []⟩) (fun _ R s => s.heap.get? l = some { cls := .type "tuple", dict := dd, data := .seq items n, slots := sl } ∧ R (.ok (.ret (Value.ref l))) s) :=
  .of_wp fun prog w A R s h => by
    obtain ⟨hp, g, d, tk, os⟩ := s
    obtain ⟨at_, h⟩ := h
    have f1 := AutoSeq1.idx_int
    wp_walk using wpAny_loadPart' at_
    repeat (first
      | (refine wpAny_ite_false (decide_eq_false (by rw [c0]; exact Bool.false_ne_true)) ?_; wp_walk using wpAny_loadPart' at_)
      | (refine wpAny_ite_true (decide_eq_true c1) ?_; wp_walk using wpAny_loadPart' at_))
    exact ⟨_, rfl, h⟩
theorem op_sameT : OpR X (binaryOp .Mult) (fun x y H Q => ∃ l k xs, x = .ref l ∧ y = .int k ∧ SqT X.K H l xs ∧ (xs = [] ∨ k = 1) ∧ -1000 ≤ k ∧ k ≤ 1000 ∧ Q x H) := by
  intro pins s σ H x y v u Q I rx ry h
  obtain ⟨l, k, xs, rfl, rfl, hT, h1, h2, h3, q⟩ := h
  cases rx
  obtain ⟨t, rfl⟩ := ry
  obtain ⟨its, r, ⟨⟨cls, dd, data, sl⟩, ho, hc, n, hd⟩, hs⟩ := I.tuple hT
  simp only at hc hd
  subst hc hd
  have c0 : (decide (k < -(2 ^ 63)) || decide (k ≥ 2 ^ 63)) = false := by
    rw [decide_eq_false (by omega), decide_eq_false (by omega)] <;> rfl
  have c1 : (its.toArray.isEmpty || k == 1) = true := by
    rcases h1 with h1 | h1
    · subst h1
      cases r
      rfl
    · subst h1
      simp
  exact wpAny_binaryOp_repeat_ref (T := "tuple") (U := "int") (by decide) ⟨_, ho, rfl⟩ (fun s' => typeIs_int s' k t) noFill_tuple_mul F.fills_int_mul F.slot_int_rmul repeat_tuple F.slot_int_index.lookup
    (call_meets F.slot_int_rmul (typeIs_int s k t) F.entry_int_rmul (F.args_int_rmul_2 _ _) (int_rmul_tuple k t l its.toArray n dd sl)
      ⟨ho, rfl, ⟨_, ho, rfl⟩, call_meets F.slot_tuple_mul ⟨_, ho, rfl⟩ F.entry_tuple_mul (F.args_tuple_mul_2 _ _) (tuple_same l its.toArray n dd sl k t c0 c1) ⟨ho, .ref l, H, I, rfl, q⟩⟩)
theorem ops_mul (hK : X.K = C.K) : OpR X (binaryOp .Mult) (rO2 C oMul) := by
  intro pins s σ H x y v u Q I rx ry ⟨ρ, hd, dx, dy, sh, r1, r2, p⟩
  unfold oMul at p
  split at p
  · split at p
    · rename_i hj
      cases of_int r1; cases of_int r2
      exact op_mul pins s σ H _ _ v u Q I rx ry ⟨_, _, rfl, rfl, hj, p.v sh rel_int⟩
    · exact p.elim
  · rename_i a k
    split at p
    · rename_i hz
      obtain ⟨hne, h2, h3, h4⟩ := hz
      obtain ⟨a1, v1, rfl, t1, q1, z1⟩ := tup_of r1
      cases of_int r2
      have l1 := q1.length
      refine op_repT pins s σ H _ _ v u Q I rx ry ⟨a1, k, v1, rfl, rfl, hK ▸ t1, fun e => hne (by subst e; simpa using l1), h2, h3, by omega, fun p' hp => ?_⟩
      refine p _ _ (Ext.upd_new hp) (sh.upd_new hp) (rel_tup sh hp (relL_flatten q1 _) ?_)
      rw [List.length_flatten, List.map_replicate, List.sum_replicate_nat]
      have hk : k.toNat ≤ 1000 := by omega
      have := Nat.mul_le_mul hk h4
      rw [sizeLine_eq]; omega
    · split at p
      · rename_i hz
        obtain ⟨a1, v1, rfl, t1, q1, z1⟩ := tup_of r1
        cases of_int r2
        have l1 := q1.length
        exact op_sameT pins s σ H _ _ v u Q I rx ry ⟨a1, k, v1, rfl, rfl, hK ▸ t1, hz.1.imp (fun e => by subst e; simpa [RelL.nil_iff] using q1) id, hz.2.1, hz.2.2, p.v sh r1⟩
      · exact p.elim
  · split at p
    · rename_i a e1
      split at p
      · rename_i hz
        obtain ⟨h1, h2, h3⟩ := hz
        obtain ⟨a1, v1, rfl, t1, q1, z1⟩ := lst_of sh r1 e1
        cases of_int r2
        have l1 := q1.length
        refine op_rep pins s σ H _ _ v u Q I rx ry ⟨a1, _, v1, rfl, rfl, t1, h1, h2, by rw [← l1]; exact h3, fun p' hp => p _ _ ?_ hp (relL_flatten q1 _)⟩
        rw [List.length_flatten, List.map_replicate, List.sum_replicate_nat, Nat.mul_comm]
        exact h3
      · exact p.elim
    · exact p.elim
  · exact p.elim
theorem ops_cmp {op : CmpOp} {q : Int → Int → Bool} (h : OpR X (compareOp op) (rI0 fun i j => .bl (q i j))) : OpR X (compareOp op) (rO2 C (oCmp q)) := by
  intro pins s σ H x y v u Q I rx ry ⟨ρ, hd, dx, dy, sh, r1, r2, p⟩
  unfold oCmp at p
  split at p
  · cases of_int r1; cases of_int r2
    exact h pins s σ H _ _ v u Q I rx ry ⟨_, _, rfl, rfl, p.v sh rel_bl⟩
  · exact p.elim
theorem uns_neg : UnR X (unaryOp .USub) (rO1 C oNeg) := by
  intro pins s σ H x v Q I rx ⟨ρ, hd, dx, sh, r1, p⟩
  unfold oNeg at p
  split at p
  · cases of_int r1
    exact un_neg pins s σ H _ v Q I rx ⟨_, rfl, p.v sh rel_int⟩
  · exact p.elim
end
end EV
namespace EV
open PySem PySem.Spec PyProof.Rows L2
mutual
inductive Rds (h : Heap) : Value → PyData → Prop
  | none : Rds h .none .none
  | bool (b : Bool) : Rds h (.bool b) (.bool b)
  | int (i : Int) (t : Nat) : Rds h (.int i t) (.int i)
  | str (x : Str) (t : Nat) : Rds h (.str x t) (.str x)
  | list {a : Addr} {o : Obj} {vs : Array Value} {n : Nat} {xs : List PyData} : h.get? a = some o → o.cls = .type "list" → o.data = .seq vs n → RdsAll h vs.toList xs → Rds h (.ref a) (.list xs)
  | tuple {a : Addr} {o : Obj} {vs : Array Value} {n : Nat} {xs : List PyData} : h.get? a = some o → o.cls = .type "tuple" → o.data = .seq vs n → RdsAll h vs.toList xs → Rds h (.ref a) (.tuple xs)
  | dict {a : Addr} {o : Obj} {es : Array DictEntry} {n : Nat} {kvs : List (PyData × PyData)} : h.get? a = some o → o.cls = .type "dict" → o.data = .dict es n → (a == sysModules) = false → RdsAll h (es.toList.map (·.key)) (kvs.map (·.1)) →
      RdsAll h (es.toList.map (·.val)) (kvs.map (·.2)) → Rds h (.ref a) (.dict kvs)
inductive RdsAll (h : Heap) : List Value → List PyData → Prop
  | nil : RdsAll h [] []
  | cons {v : Value} {vs : List Value} {d : PyData} {ds : List PyData} : Rds h v d → RdsAll h vs ds → RdsAll h (v :: vs) (d :: ds)
end
mutual
theorem Rds.reads {h : Heap} : ∀ {v : Value} {d : PyData}, Rds h v d → ∃ as, Reads h v d as
  | _, _, .none => ⟨_, .none⟩
  | _, _, .bool b => ⟨_, .bool b⟩
  | _, _, .int i t => ⟨_, .int i t⟩
  | _, _, .str i t => ⟨_, .str i t⟩
  | _, _, .list h1 h2 h3 h4 => let ⟨_, r⟩ := RdsAll.reads h4; ⟨_, .list h1 h2 h3 r⟩
  | _, _, .tuple h1 h2 h3 h4 => let ⟨_, r⟩ := RdsAll.reads h4; ⟨_, .tuple h1 h2 h3 r⟩
  | _, _, .dict h1 h2 h3 _ h4 h5 => let ⟨_, r⟩ := RdsAll.reads h4; let ⟨_, q⟩ := RdsAll.reads h5; ⟨_, .dict h1 h2 h3 r q⟩
theorem RdsAll.reads {h : Heap} : ∀ {v : List Value} {d : List PyData}, RdsAll h v d → ∃ as, ReadsAll h v d as
  | _, _, .nil => ⟨_, .nil⟩
  | _, _, .cons h1 h2 => let ⟨_, r⟩ := Rds.reads h1; let ⟨_, q⟩ := RdsAll.reads h2; ⟨_, .cons r q⟩
end
section
variable {prog : Program} {w : World} {h₀ : Heap}
open PySem
mutual
theorem Rds.reprK : ∀ {v : Value} {d : PyData}, Rds h₀ v d → d.showable = true → d.shown.length ≤ sizeLine → ∃ bs, ReadAtMost h₀ d.depth bs ∧ ReprK prog w bs h₀ d.depth v d.shown
  | _, _, .none, _, _ => ⟨[], (fun _ h => nomatch h), by simp only [PyData.shown]; exact .of_is ReprIs.none _ _ _⟩
  | _, _, .bool b, _, _ => ⟨[], (fun _ h => nomatch h), by simp only [PyData.shown]; exact .of_is (ReprIs.bool b) _ _ _⟩
  | _, _, .int i t, hs, _ => ⟨[], (fun _ h => nomatch h), by simp only [PyData.shown]; exact .of_is (ReprIs.int t (by simpa [PyData.showable] using hs)) _ _ _⟩
  | _, _, .str x t, _, hz => ⟨[], (fun _ h => nomatch h), by simp only [PyData.shown]; exact .of_is (ReprIs.str x t (by simpa only [PyData.shown] using hz)) _ _ _⟩
  | _, _, .list (a := a) (vs := vs) (xs := xs) h1 h2 h3 h4, hs, hz => by
    have hz' : (listText (PyData.shownAll xs)).length ≤ sizeLine := by simpa only [PyData.shown] using hz
    obtain ⟨bs, hb, hk⟩ := RdsAll.reprK h4 (by simpa [PyData.showable] using hs) (fun t ht => Nat.le_trans (listText_mem_le ht) hz')
    obtain ⟨_, r⟩ := Rds.reads (.list h1 h2 h3 h4)
    have hna : a ∉ bs := not_mem_of_deeper r (by simp only [PyData.depth]; omega) hb
    refine ⟨a :: bs, ReadAtMost.cons r (by simp only [PyData.depth]; omega) hb, ?_⟩
    simp only [PyData.depth, PyData.shown]
    obtain ⟨l⟩ := vs
    cases l with
    | nil =>
      have h4' : RdsAll h₀ [] xs := h4
      cases h4'
      simp only [PyData.shownAll, listText_nil]
      exact ReprK.listEmpty h1 h2 h3
    | cons x l => exact ReprK.list h1 h2 h3 hna (by simpa using hk.length_eq) (fun i y e => hk.item i y (by simpa using e))
  | _, _, .tuple (a := a) (xs := xs) h1 h2 h3 h4, hs, hz => by
    have hz' : (tupleText (PyData.shownAll xs)).length ≤ sizeLine := by simpa only [PyData.shown] using hz
    obtain ⟨bs, hb, hk⟩ := RdsAll.reprK h4 (by simpa [PyData.showable] using hs) (fun t ht => Nat.le_trans (tupleText_mem_le ht) hz')
    obtain ⟨_, r⟩ := Rds.reads (.tuple h1 h2 h3 h4)
    have hna : a ∉ bs := not_mem_of_deeper r (by simp only [PyData.depth]; omega) hb
    refine ⟨a :: bs, ReadAtMost.cons r (by simp only [PyData.depth]; omega) hb, ?_⟩
    simp only [PyData.depth, PyData.shown]
    exact ReprK.tuple h1 h2 h3 hna hk
  | _, _, .dict (a := a) (es := es) (kvs := kvs) h1 h2 h3 hsys h4 h5, hs, hz => by
    have hz' : (dictText (PyData.shownKv kvs)).length ≤ sizeLine := by simpa only [PyData.shown] using hz
    obtain ⟨hs1, hs2⟩ := PyData.showableKv_split kvs (by simpa [PyData.showable] using hs)
    obtain ⟨b1, hb1, k1⟩ := RdsAll.reprK h4 hs1 (fun t ht => let ⟨p, hp, hl⟩ := PyData.shownKv_key_le kvs t ht; Nat.le_trans hl (Nat.le_trans (dictText_mem_le hp) hz'))
    obtain ⟨b2, hb2, k2⟩ := RdsAll.reprK h5 hs2 (fun t ht => let ⟨p, hp, hl⟩ := PyData.shownKv_val_le kvs t ht; Nat.le_trans hl (Nat.le_trans (dictText_mem_le hp) hz'))
    obtain ⟨_, r⟩ := Rds.reads (.dict h1 h2 h3 hsys h4 h5)
    have hb : ReadAtMost h₀ (PyData.depthKv kvs) (b1 ++ b2) := (hb1.mono (PyData.depthAll_keys_le kvs)).append (hb2.mono (PyData.depthAll_vals_le kvs))
    have hna : a ∉ b1 ++ b2 := not_mem_of_deeper r (by simp only [PyData.depth]; omega) hb
    refine ⟨a :: (b1 ++ b2), ReadAtMost.cons r (by simp only [PyData.depth]; omega) hb, ?_⟩
    simp only [PyData.depth, PyData.shown, PyData.shownKv_eq]
    exact ReprK.dict h1 h2 h3 hsys hna (ReprEntriesK.of_two es.toList _ _
      (k1.more_le (fun b hb => List.mem_append_left _ hb) (PyData.depthAll_keys_le kvs)) (k2.more_le (fun b hb => List.mem_append_right _ hb) (PyData.depthAll_vals_le kvs)))
theorem RdsAll.reprK : ∀ {vs : List Value} {ds : List PyData}, RdsAll h₀ vs ds → PyData.showableAll ds = true → (∀ t ∈ PyData.shownAll ds, t.length ≤ sizeLine) →
    ∃ bs, ReadAtMost h₀ (PyData.depthAll ds) bs ∧ ReprAllK prog w bs h₀ (PyData.depthAll ds) vs (PyData.shownAll ds)
  | _, _, .nil, _, _ => ⟨[], (fun _ h => nomatch h), by simp only [PyData.shownAll]; exact .nil⟩
  | _, _, .cons (d := d) (ds := ds) r rs, hs, hz => by
    have hs' : d.showable = true ∧ PyData.showableAll ds = true := by simpa [PyData.showableAll] using hs
    obtain ⟨b1, hb1, k1⟩ := Rds.reprK r hs'.1 (hz _ (by simp only [PyData.shownAll]; exact List.mem_cons_self ..))
    obtain ⟨b2, hb2, k2⟩ := RdsAll.reprK rs hs'.2 (fun t ht => hz t (by simp only [PyData.shownAll]; exact List.mem_cons_of_mem _ ht))
    refine ⟨b1 ++ b2, ?_, ?_⟩
    · intro b hm
      simp only [PyData.depthAll]
      rcases List.mem_append.mp hm with hm | hm
      · obtain ⟨d', as', r', hd'⟩ := hb1 b hm
        exact ⟨d', as', r', Nat.le_trans hd' (Nat.le_max_left _ _)⟩
      · obtain ⟨d', as', r', hd'⟩ := hb2 b hm
        exact ⟨d', as', r', Nat.le_trans hd' (Nat.le_max_right _ _)⟩
    · simp only [PyData.depthAll, PyData.shownAll]
      exact .cons ((k1.more fun b hb => List.mem_append_left _ hb).level_le (Nat.le_max_left _ _)) (k2.more_le (fun b hb => List.mem_append_right _ hb) (Nat.le_max_right _ _))
end
/-- repr(x) -/
theorem repr_rds {A : Around} {E : Value → Shared → Prop} {s : Shared} {Q : Value → Shared → Prop} {a : Addr} {d : PyData} (r : Rds h₀ (.ref a) d) (hs : d.showable = true) (hg : A.guards = some []) (hu : A.units + (d.depth + 1) < cLine) (hk0 : ∀ b o, h₀.get? b = some o → s.heap.get? b = some o)
    (hQ : ∀ h' u tk, (∀ b o, s.heap.get? b = some o → h'.get? b = some o) → Q (.str d.shown u) { s with heap := h', toks := tk })
    (hsz : d.shown.length ≤ sizeLine) : wpAny (model prog w) A (call (.builtin "repr") [.ref a]) Q E s := by
  have go : ∀ {T idr : String}, (∀ s : Shared, (∀ b o, h₀.get? b = some o → s.heap.get? b = some o) → s.TypeIs (.ref a) T) → SlotG T "__repr__" idr →
      (∀ (A : Around) (E : Value → Shared → Prop) (s : Shared) (Q : Value → Shared → Prop), A.guards = some [] → A.units + d.depth < cLine → (∀ b o, h₀.get? b = some o → s.heap.get? b = some o) →
    (∀ h' u tk, (∀ b o, s.heap.get? b = some o → h'.get? b = some o) → Q (.str d.shown u) { s with heap := h', toks := tk }) → wpAny (model prog w) A (call (.builtin idr) [.ref a]) Q E s) → wpAny (model prog w) A (call (.builtin "repr") [.ref a]) Q E s := fun ht sl hc =>
    call_repr_slot (by omega) (ht s hk0) sl (hc A.in1 E s _ hg (by show A.units + 1 + d.depth < cLine; omega) hk0 fun h' u tk hk => ⟨_, _, rfl, hQ h' u tk hk⟩)
  cases r with
  | list h1 h2 h3 h4 =>
    rename_i o vs n xs
    have hz' : (listText (PyData.shownAll xs)).length ≤ sizeLine := by simpa only [PyData.shown] using hsz
    obtain ⟨bs, hb, hk⟩ := RdsAll.reprK (prog := prog) (w := w) h4 (by simpa [PyData.showable] using hs) (fun t ht => Nat.le_trans (listText_mem_le ht) hz')
    obtain ⟨_, r⟩ := Rds.reads (.list h1 h2 h3 h4)
    have hna : a ∉ bs := not_mem_of_deeper r (by simp only [PyData.depth]; omega) hb
    refine go (fun s hk0 => ⟨o, hk0 _ _ h1, h2⟩) F.slot_list_repr.toG fun A E s Q hg hu hk0 hQ => ?_
    simp only [PyData.depth] at hu
    simp only [PyData.shown] at hQ
    obtain ⟨l⟩ := vs
    cases l with
    | nil =>
      have h4' : RdsAll h₀ [] xs := h4
      cases h4'
      simp only [PyData.shownAll, listText_nil] at hQ
      exact call_list_repr_empty ⟨o, hk0 _ _ h1, h2⟩ (hk0 _ _ h1) h3 (hQ s.heap _ _ fun _ _ e => e)
    | cons x l =>
      exact call_list_reprK h1 h2 h3 hna (by simpa using hk.length_eq) (fun i y e => hk.item i y (by simpa using e)) hg (fun b _ => Clear.nil b) hu hk0 hQ hz'
  | tuple h1 h2 h3 h4 =>
    rename_i o vs n xs
    have hz' : (tupleText (PyData.shownAll xs)).length ≤ sizeLine := by simpa only [PyData.shown] using hsz
    obtain ⟨bs, hb, hk⟩ := RdsAll.reprK (prog := prog) (w := w) h4 (by simpa [PyData.showable] using hs) (fun t ht => Nat.le_trans (tupleText_mem_le ht) hz')
    obtain ⟨_, r⟩ := Rds.reads (.tuple h1 h2 h3 h4)
    have hna : a ∉ bs := not_mem_of_deeper r (by simp only [PyData.depth]; omega) hb
    refine go (fun s hk0 => ⟨o, hk0 _ _ h1, h2⟩) F.slot_tuple_repr fun A E s Q hg hu hk0 hQ => ?_
    simp only [PyData.depth] at hu
    simp only [PyData.shown] at hQ
    exact call_tuple_reprK h1 h2 h3 hna hk hg (fun b _ => Clear.nil b) hu hk0 hQ hz'
  | dict h1 h2 h3 hsys h4 h5 =>
    rename_i o es n kvs
    have hz' : (dictText (PyData.shownKv kvs)).length ≤ sizeLine := by simpa only [PyData.shown] using hsz
    obtain ⟨hs1, hs2⟩ := PyData.showableKv_split kvs (by simpa [PyData.showable] using hs)
    obtain ⟨b1, hb1, k1⟩ := RdsAll.reprK (prog := prog) (w := w) h4 hs1 (fun t ht => let ⟨p, hp, hl⟩ := PyData.shownKv_key_le kvs t ht; Nat.le_trans hl (Nat.le_trans (dictText_mem_le hp) hz'))
    obtain ⟨b2, hb2, k2⟩ := RdsAll.reprK (prog := prog) (w := w) h5 hs2 (fun t ht => let ⟨p, hp, hl⟩ := PyData.shownKv_val_le kvs t ht; Nat.le_trans hl (Nat.le_trans (dictText_mem_le hp) hz'))
    have hb : ReadAtMost h₀ (PyData.depthKv kvs) (b1 ++ b2) := (hb1.mono (PyData.depthAll_keys_le kvs)).append (hb2.mono (PyData.depthAll_vals_le kvs))
    obtain ⟨_, r⟩ := Rds.reads (.dict h1 h2 h3 hsys h4 h5)
    have hna : a ∉ b1 ++ b2 := not_mem_of_deeper r (by simp only [PyData.depth]; omega) hb
    refine go (fun s hk0 => ⟨o, hk0 _ _ h1, h2⟩) F.slot_dict_repr fun A E s Q hg hu hk0 hQ => ?_
    simp only [PyData.depth] at hu
    simp only [PyData.shown, PyData.shownKv_eq] at hQ
    exact call_dict_reprK h1 h2 h3 hsys hna (ReprEntriesK.of_two es.toList _ _
      (k1.more_le (fun b hb => List.mem_append_left _ hb) (PyData.depthAll_keys_le kvs)) (k2.more_le (fun b hb => List.mem_append_right _ hb) (PyData.depthAll_vals_le kvs))) hg (fun b _ => Clear.nil b) hu hk0 hQ (by rw [← PyData.shownKv_eq]; exact hz')
end
end EV
namespace EV
open PySem PySem.Spec PyProof.Rows L2
theorem toPyL_len : ∀ (ds : List D) (ps : List PyData), toPyL ds = some ps → ds.length = ps.length
  | [], _, e => by simp only [toPyL, Option.some.injEq] at e; subst e; rfl
  | d :: ds, _, e => by
    simp only [toPyL] at e
    split at e
    · cases e
    · split at e
      · cases e
      · rename_i ps e2
        cases e
        rw [List.length_cons, List.length_cons, toPyL_len ds ps e2]
section
variable {X : Cx} {C : Ctx} {ρ : RhoT} {H : Hp} {hd : Hd} {pins : List (Addr × Obj)} {σ : L2.St} {s : Shared}
theorem reads_ints {h : Heap} : ∀ {ns : List Int} {us : List Value}, Vals (ns.map V.int) us → RdsAll h us (ns.map PyData.int)
  | [], _, r => by cases r; exact .nil
  | n :: ns, _, r => by
    cases r with
    | cons r1 r2 =>
      obtain ⟨t, rfl⟩ := r1
      exact .cons (.int n t) (reads_ints r2)
theorem reads_keys {P : Program} {w : World} {h : Heap} : ∀ {ks : List Key} {vs : List V} {kvs : List (Key × Value)} {es : List DictEntry}, ks.length = vs.length → KV (ks.zip vs) kvs → Pairs (mixKind P w) es kvs → RdsAll h (es.map (·.key)) (ks.map keyPy) ∧ Vals vs (es.map (·.val))
  | [], [], _, _, _, r, q => by cases r; cases q; exact ⟨.nil, .nil⟩
  | [], _ :: _, _, _, e, _, _ => by cases e
  | _ :: _, [], _, _, e, _, _ => by cases e
  | k :: ks, v :: vs, _, _, e, r, q => by
    cases r with
    | cons r1 r2 =>
      cases q with
      | cons q1 q2 q3 =>
        obtain ⟨i1, i2⟩ := reads_keys (h := h) (by simpa using e) r2 q3
        obtain ⟨e1, e2⟩ := r1
        refine ⟨?_, .cons (by dsimp only; rw [q2]; exact e2) i2⟩
        have q1 : keyIs _ _ = true := q1
        rw [← e1] at q1
        have q1 : keyIs k _ = true := q1
        rcases keyIs_shape q1 with ⟨i, t, rfl, z⟩ | ⟨x, t, rfl, z⟩
        · exact .cons (by dsimp only; rw [z]; exact .int i t) i1
        · exact .cons (by dsimp only; rw [z]; exact .str x t) i1
mutual
theorem reads_of (hK : X.K = C.K) (I : Inv X pins σ H s) : ∀ (d : D) (p : PyData) (v : V) (u : Value), toPy d = some p → Rel C ρ H d v → RelV v u → Rds s.heap u p
  | .non, _, _, _, e, r, q => by
    simp only [toPy, Option.some.injEq] at e; subst e; cases of_non r; cases q; exact .none
  | .bl b, _, _, _, e, r, q => by
    simp only [toPy, Option.some.injEq] at e; subst e; cases of_bl r; cases q; exact .bool b
  | .int i, _, _, _, e, r, q => by
    simp only [toPy, Option.some.injEq] at e; subst e; cases of_int r; obtain ⟨t, rfl⟩ := q; exact .int i t
  | .str x, _, _, _, e, r, q => by
    simp only [toPy, Option.some.injEq] at e; subst e; cases (of_str r).1; obtain ⟨t, rfl⟩ := q; exact .str x t
  | .tup xs, _, _, _, e, r, q => by
    simp only [toPy, Option.map_eq_some_iff] at e
    obtain ⟨ps, e1, rfl⟩ := e
    obtain ⟨a, vs, rfl, t, rl, z⟩ := tup_of r
    cases q
    obtain ⟨its, rv, ⟨o, ho, hc, n, hd⟩, _⟩ := I.tuple (hK ▸ t)
    have hr := readsL_of hK I xs ps vs its e1 rl rv
    exact .tuple ho hc hd hr
  | .lst xs, _, _, _, e, r, q => by
    simp only [toPy, Option.map_eq_some_iff] at e
    obtain ⟨ps, e1, rfl⟩ := e
    simp only [Rel] at r
    obtain ⟨a, vs, rfl, ⟨t, _⟩, rl, z⟩ := r
    cases q
    obtain ⟨its, rv, ⟨o, n, ho, hc, _, hd⟩, _⟩ := I.list (SqL.of t)
    have hr := readsL_of hK I xs ps vs its e1 rl rv
    exact .list ho hc hd hr
  | .dic ks xs, _, _, _, e, r, q => by
    simp only [toPy, Option.map_eq_some_iff] at e
    obtain ⟨ps, e1, rfl⟩ := e
    simp only [Rel] at r
    obtain ⟨a, vs, rfl, ⟨t, _⟩, rl, z⟩ := r
    cases q
    obtain ⟨_, hS, kvs, kv, o, es, ep, ho, hx, hdd, _, hp, _⟩ := I.hok a _ t
    have lv := rl.length
    obtain ⟨k1, k2⟩ := reads_keys (h := s.heap) (by omega) kv hp
    have hr := readsL_of hK I xs ps vs _ e1 rl k2
    have lp : (ks.map keyPy).length = ps.length := by rw [List.length_map, z, toPyL_len xs ps e1]
    exact .dict ho hx.1 hdd hS (by rw [List.map_fst_zip (by omega)]; exact k1) (by rw [List.map_snd_zip (by omega)]; exact hr)
  | .scr ns, _, _, _, e, r, q => by
    simp only [toPy, Option.some.injEq] at e; subst e
    obtain ⟨a, rfl, t, z⟩ := scr_of r
    cases q
    obtain ⟨its, rv, ⟨o, n, ho, hc, _, hd⟩, _⟩ := I.list (hK ▸ t)
    exact .list ho hc hd (reads_ints rv)
  | .ref _, _, _, _, e, _, _ => by simp only [toPy] at e; cases e
  | .fn _, _, _, _, e, _, _ => by simp only [toPy] at e; cases e
  | .ty _, _, _, _, e, _, _ => by simp only [toPy] at e; cases e
  | .cl _, _, _, _, e, _, _ => by simp only [toPy] at e; cases e
theorem readsL_of (hK : X.K = C.K) (I : Inv X pins σ H s) : ∀ (ds : List D) (ps : List PyData) (vs : List V) (us : List Value), toPyL ds = some ps → RelL C ρ H ds vs → Vals vs us → RdsAll s.heap us ps
  | [], _, _, _, e, r, q => by
    simp only [toPyL, Option.some.injEq] at e; subst e
    rw [RelL.nil_iff] at r; subst r; cases q; exact .nil
  | d :: ds, _, _, _, e, r, q => by
    simp only [toPyL] at e
    split at e
    · cases e
    · rename_i p e1
      split at e
      · cases e
      · rename_i ps e2
        cases e
        simp only [RelL] at r
        obtain ⟨v, vs, rfl, r1, r2⟩ := r
        cases q with
        | cons q1 q2 =>
          have h1 := reads_of hK I d p v _ e1 r1 q1
          have h2 := readsL_of hK I ds ps vs _ e2 r2 q2
          exact .cons h1 h2
end
/-- .. or a list, a dict that changes -/
theorem readsT_of (hK : X.K = C.K) (I : Inv X pins σ H s) (sh : SimH C ρ H hd) {d : D} {p : PyData} {v : V} {u : Value} (e : toPyT hd d = some p) (r : Rel C ρ H d v) (q : RelV v u) : Rds s.heap u p := by
  cases d with
  | ref n =>
    simp only [toPyT] at e
    simp only [Rel] at r
    obtain ⟨a, rfl, f⟩ := r
    cases q
    split at e
    · rename_i xs h
      simp only [Option.map_eq_some_iff] at e
      obtain ⟨ps, e1, rfl⟩ := e
      obtain ⟨_, vs, t, rl, z⟩ := sh.lst_at h f
      obtain ⟨its, rv, ⟨o, n, ho, hc, _, hd⟩, _⟩ := I.list (SqL.of t)
      have hr := readsL_of hK I xs ps vs its e1 rl rv
      exact .list ho hc hd hr
    · rename_i ks xs h
      simp only [Option.map_eq_some_iff] at e
      obtain ⟨ps, e1, rfl⟩ := e
      obtain ⟨vs, t, rl, z⟩ : ∃ vs, H a = some (.dK (ks.zip vs)) ∧ RelL C ρ H xs vs ∧ ks.length = xs.length := by
        rcases f with f | f
        · obtain ⟨o, h1, h2⟩ := sh.at_ n a f
          rw [h] at h1; cases h1
          exact h2
        · cases sh.live n _ h f
      obtain ⟨_, hS, kvs, kv, o, es, ep, ho, hx, hdd, _, hp, _⟩ := I.hok a _ t
      have lv := rl.length
      obtain ⟨k1, k2⟩ := reads_keys (h := s.heap) (by omega) kv hp
      have hr := readsL_of hK I xs ps vs _ e1 rl k2
      have lp : (ks.map keyPy).length = ps.length := by rw [List.length_map, z, toPyL_len xs ps e1]
      exact .dict ho hx.1 hdd hS (by rw [List.map_fst_zip (by omega)]; exact k1) (by rw [List.map_snd_zip (by omega)]; exact hr)
    · cases e
  | _ => exact reads_of hK I _ p v u e r q
theorem ops_eqv {op : CmpOp} {g : Bool → Bool} (hs : OpR X (compareOp op) (fun x y H Q => scal x y = true ∧ Q (.bl (g (decide (x = y)))) H))
    (hd' : ∀ (pins : List (Addr × Obj)) (s : Shared) (σ : L2.St) (H : Hp) (v u : Value) (p q : PyData) (as bs : List Addr) (Q : VK), Inv X pins σ H s → Reads s.heap v p as → Reads s.heap u q bs → SeqAt.shaped p = true → SeqAt.shaped q = true → Q (.bl (g (PyData.eqv p q))) H → wpAny (model X.prog X.w) X.A (compareOp op v u) (EP X pins σ Q) X.xe s)
    (hK : X.K = C.K) : OpR X (compareOp op) (rO2 C fun x y h => (eqv x y h).map fun b => .v (.bl (g b))) := by
  intro pins s σ H x y v u Q I rx ry ⟨ρ, hd, dx, dy, sh, r1, r2, p⟩
  dsimp only at p
  unfold eqv at p
  split at p
  · cases (of_str r1).1; cases (of_str r2).1
    exact hs pins s σ H _ _ v u Q I rx ry ⟨rfl, by rw [dec_str]; exact p.v sh rel_bl⟩
  · cases of_int r1; cases of_int r2
    exact hs pins s σ H _ _ v u Q I rx ry ⟨rfl, by rw [dec_int]; exact p.v sh rel_bl⟩
  · cases of_bl r1; cases of_bl r2
    exact hs pins s σ H _ _ v u Q I rx ry ⟨rfl, by rw [dec_bl]; exact p.v sh rel_bl⟩
  · split at p
    · rename_i pp qq e1 e2
      split at p
      · rename_i hsh
        obtain ⟨as, h1⟩ := (readsT_of hK I sh e1 r1 rx).reads
        obtain ⟨bs, h2⟩ := (readsT_of hK I sh e2 r2 ry).reads
        exact hd' pins s σ H v u pp qq as bs Q I h1 h2 hsh.1 hsh.2 (p.v sh rel_bl)
      · exact p.elim
    · exact p.elim
theorem ops_eq (hK : X.K = C.K) (hu : X.A.units + 64 < cLine) : OpR X (compareOp .Eq) (rO2 C oEq) :=
  ops_eqv (g := fun b => b) op_eq (fun pins s σ H v u p q as bs Q I r1 r2 h1 h2 hq => SeqAt.compareEq_shaped r1 r2 h1 h2 hu ⟨.bl _, H, I, rfl, hq⟩) hK
theorem ops_ne (hK : X.K = C.K) (hu : X.A.units + 64 < cLine) : OpR X (compareOp .NotEq) (rO2 C oNe) :=
  ops_eqv (g := fun b => !b) op_ne (fun pins s σ H v u p q as bs Q I r1 r2 h1 h2 hq => SeqAt.compareNe_shaped r1 r2 h1 h2 hu ⟨.bl _, H, I, rfl, hq⟩) hK
theorem atI_rel {ds : List D} {vs : List V} {i : Int} {d : D} (rl : RelL C ρ H ds vs) (e : atI ds i = some d) : ∃ v, atI vs i = some v ∧ Rel C ρ H d v := by
  unfold atI at e ⊢
  rw [rl.length] at e
  cases hj : ixN vs.length i with
  | none => rw [hj] at e; cases e
  | some j =>
    rw [hj] at e
    exact rl.get (i := j) e
theorem ix_ok (hK : X.K = C.K) : IxR X (rO2 C oIx) := by
  intro vl sl pins s σ H x y v u Q I rx ry ⟨ρ, hd, dx, dy, sh, r1, r2, p⟩ hs
  unfold oIx at p
  split at p
  · rename_i z i
    cases (of_str r1).1; cases of_int r2
    cases e : atI z.cps.toList i with
    | none => rw [e] at p; exact p.elim
    | some c =>
      rw [e] at p
      exact ix_str vl sl pins s σ H _ _ v u Q I rx ry ⟨z, i, c, rfl, rfl, (of_str r1).2, e, p.v sh (rel_str (by show 1 ≤ sizeLine; rw [sizeLine_eq]; decide))⟩ hs
  · rename_i i _
    cases of_int r2
    split at p
    · rename_i xs e
      cases e2 : atI xs i with
      | none => rw [e2] at p; exact p.elim
      | some d =>
        rw [e2] at p
        obtain ⟨a, vs, rfl, t, rl, z⟩ := seq_of sh r1 e
        obtain ⟨w, e3, rw'⟩ := atI_rel rl e2
        rcases t with t | t
        · exact ix_list vl sl pins s σ H _ _ v u Q I rx ry ⟨a, vs, i, w, rfl, rfl, hK ▸ t, e3, p.v sh rw'⟩ hs
        · exact ix_tup vl sl pins s σ H _ _ v u Q I rx ry ⟨a, vs, i, w, rfl, rfl, hK ▸ t, e3, p.v sh rw'⟩ hs
    · exact p.elim
  · exact p.elim
theorem truth_rel (hK : X.K = C.K) {d : D} {v : V} {b : Bool} (sh : SimH C ρ H hd) (r : Rel C ρ H d v) (e : truth d hd = some b) : TruV X.K v H b := by
  have seqc : ∀ d, (seqOf d hd).map (fun xs => !xs.isEmpty) = some b → Rel C ρ H d v → TruV X.K v H b := fun d e r => by
    simp only [Option.map_eq_some_iff] at e
    obtain ⟨xs, e1, rfl⟩ := e
    obtain ⟨a, vs, rfl, t, rl, z⟩ := seq_of sh r e1
    have hb : (!xs.isEmpty) = !vs.isEmpty := by
      have := rl.length
      cases xs <;> cases vs <;> first | rfl | (simp at this)
    rcases t with t | t
    · exact .inl ⟨vs, hK ▸ t, hb⟩
    · exact .inr (.inl ⟨vs, hK ▸ t, hb⟩)
  cases d with
  | non => cases of_non r; exact (Option.some.inj e).symm
  | bl _ => cases of_bl r; exact (Option.some.inj e).symm
  | int _ => cases of_int r; exact (Option.some.inj e).symm
  | str _ => obtain ⟨rfl, z⟩ := of_str r; exact ⟨z, (Option.some.inj e).symm⟩
  | tup xs => exact seqc (.tup xs) e r
  | lst xs => exact seqc (.lst xs) e r
  | dic k x => exact seqc (.dic k x) e r
  | dct k x => exact seqc (.dct k x) e r
  | exn c k x => exact seqc (.exn c k x) e r
  | clo a b c d i k => exact seqc (.clo a b c d i k) e r
  | ktup k => exact seqc (.ktup k) e r
  | scr n => exact seqc (.scr n) e r
  | ref n => exact seqc (.ref n) e r
  | fn n => exact seqc (.fn n) e r
  | ty n => exact seqc (.ty n) e r
  | cl n => exact seqc (.cl n) e r
end
end EV
namespace EV
open PySem PySem.Spec PyProof.Rows L2
def mnil : M (List D) := fun _ h => .ok [] h
def mcons (a : M D) (r : M (List D)) : M (List D) := fun env h => (a env h).bind fun x h1 => (r env h1).bind fun xs h2 => .ok (x :: xs) h2
def mstar (a : M D) (r : M (List D)) : M (List D) := fun env h => (a env h).bind fun x h1 => match seqOf x h1 with
  | some xs => (r env h1).bind fun ys h2 => .ok (xs ++ ys) h2
  | none => .bad
def mtup (as : M (List D)) : M D := fun env h => (as env h).bind fun xs h1 => if xs.length ≤ sizeLine then .ok (.tup xs) h1 else .bad
def mlst (m : Bool) (as : M (List D)) : M D := fun env h => (as env h).bind fun xs h1 => fin m (if xs.length ≤ sizeLine then some (.new xs) else none) h1
def mand (a b : M D) : M D := fun env h => (a env h).bind fun x h1 => match truth x h1 with
  | some true => b env h1
  | some false => .ok x h1
  | none => .bad
def mor (a b : M D) : M D := fun env h => (a env h).bind fun x h1 => match truth x h1 with
  | some true => .ok x h1
  | some false => b env h1
  | none => .bad
def mnot (a : M D) : M D := fun env h => (a env h).bind fun x h1 => match truth x h1 with
  | some b => .ok (.bl !b) h1
  | none => .bad
def mandT (a b : M Bool) : M Bool := fun env h => (a env h).bind fun c h1 => if c then b env h1 else .ok false h1
def morT (a b : M Bool) : M Bool := fun env h => (a env h).bind fun c h1 => if c then .ok true h1 else b env h1
def mnotT (a : M Bool) : M Bool := fun env h => (a env h).bind fun c h1 => .ok (!c) h1
def mtru (a : M D) : M Bool := fun env h => (a env h).bind fun x h1 => match truth x h1 with
  | some b => .ok b h1
  | none => .bad
def mbl (a : M D) : M Bool := fun env h => (a env h).bind fun x h1 => match x with
  | .bl b => .ok b h1
  | _ => .bad
def mite (c : M Bool) (a b : M D) : M D := fun env h => (c env h).bind fun k h1 => if k then a env h1 else b env h1
/-- a op b op' c -/
def mchain (f g : Op2) (a b c : M D) : M D := fun env h => (a env h).bind fun x h1 => (b env h1).bind fun y h2 => match f x y h2 with
  | some (.v (.bl true)) => (c env h2).bind fun z h3 => fin false (g y z h3) h3
  | some (.v (.bl false)) => .ok (.bl false) h2
  | _ => .bad
def mfun (m : Bool) (f : OpN) (as : M (List D)) : M D := fun env h => (as env h).bind fun xs h1 => fin m (f xs h1) h1
section
variable {X : Cx} {C : Ctx} {W : WX} {pos : Pos} {a b c e : Expr} {es rest : List Expr} {ma mb mc' : M D} {ms : M (List D)} {ta tb : M Bool}
theorem evl_nil : PA X [] (tL C W mnil) := weakA pa_nil fun σ H Q ⟨ρ, env, hd, er, sh, p⟩ => p.here sh RelL.nil
def notStar : Expr → Bool
  | .Starred _ _ => false
  | _ => true
theorem starEach_at {env : PySem.Env} (h : notStar e = true) : starEach (e :: es) env = (false, eval e env) :: starEach es env := by
  cases e <;> first | rfl | cases h
def noStars : List Expr → Bool
  | [] => true
  | e :: es => notStar e && noStars es
theorem plain_of {env : PySem.Env} : ∀ {es : List Expr}, noStars es = true → (backTo pos (starEach es env)).any (·.1) = false
  | [], _ => rfl
  | e :: es, h => by
    unfold noStars at h
    rw [Bool.and_eq_true] at h
    rw [starEach_at h.1]
    show (false || (backTo pos (starEach es env)).any (·.1)) = false
    rw [plain_of h.2]; rfl
theorem evl_cons (ha : PE X e (tE C W ma)) (hr : PA X es (tL C W ms)) (hs : notStar e = true) : PA X (e :: es) (tL C W (mcons ma ms)) :=
  weakA (pa_cons ha hr (starEach_at hs)) fun σ H Q ⟨ρ, env, hd, er, sh, p⟩ =>
    seqE er sh p fun v H1 ρ1 hd1 d x er1 sh1 r1 p1 => seqL er1 sh1 p1 fun vs H2 ρ2 hd2 ds x2 er2 sh2 r2 p2 => p2.here sh2 (RelL.cons (Rel.ext x2 _ _ r1) r2)
theorem ev_tup {k : Nat} (h : PA X es (tL C W ms)) : PE X (.Tuple es k pos) (tE C W (mtup ms)) :=
  weakE (pe_tup h) fun σ H Q ⟨ρ, env, hd, er, sh, p⟩ => seqL er sh p fun vs H1 ρ1 hd1 ds x er1 sh1 r1 p1 => by
    split at p1
    · rename_i hz
      exact ⟨by rw [← r1.length]; exact hz, fun q hq => p1 _ _ _ (Ext.upd_new hq) (sh1.upd_new hq) (rel_tup sh1 hq r1 hz)⟩
    · exact p1.elim
theorem ev_lst {m : Bool} (h : PA X es (tL C W ms)) : PE X (.List es pos) (tE C W (mlst m ms)) :=
  weakE (pe_lst h) fun σ H Q ⟨ρ, env, hd, er, sh, p⟩ => seqL er sh p fun vs H1 ρ1 hd1 ds x er1 sh1 r1 p1 => by
    split at p1
    · rename_i hz
      have q := p1.fin sh1
      exact ⟨by rw [← r1.length]; exact hz, fun a ha => q a vs hz ha r1⟩
    · exact (p1.fin sh1).elim
theorem evt_or (ha : PT X a (tT C W ta)) (hb : PW X (.BoolOp .Or (b :: rest) pos) (tT C W tb)) : PW X (.BoolOp .Or (a :: b :: rest) pos) (tT C W (morT ta tb)) :=
  weakW (pw_or ha hb) fun σ H Q ⟨ρ, env, hd, er, sh, p⟩ => seqT er sh p fun k H1 ρ1 hd1 x er1 sh1 p1 => by
    cases k with
    | true => exact p1.here sh1 rfl
    | false => exact ⟨ρ1, env, hd1, er1, sh1, p1⟩
theorem evt_not (ha : PT X a (tT C W ta)) : PT X (.UnaryOp .Not a pos) (tT C W (mnotT ta)) :=
  weakT (pt_not ha) fun σ H Q ⟨ρ, env, hd, er, sh, p⟩ => seqT er sh p fun k H1 ρ1 hd1 x er1 sh1 p1 => p1.here sh1 rfl
/-- a test by its value's truth -/
def plainTest : Expr → Bool
  | .UnaryOp .Not _ _ => false
  | .BoolOp _ _ _ => false
  | .IfExp _ _ _ _ => false
  | .Compare _ _ _ _ => false
  | _ => true
theorem isTrue_of (h : plainTest e = true) : ∀ whole, isTrue e X.env whole = (do let v ← whole; standAt e.pos; holding [v] (truthy v)) := by
  intro whole
  cases e with
  | UnaryOp op _ _ => cases op <;> first | rfl | cases h
  | BoolOp _ _ _ => cases h
  | IfExp _ _ _ _ => cases h
  | Compare _ _ _ _ => cases h
  | _ => rfl
theorem evt_tru (hK : X.K = C.K) (ha : PE X e (tE C W ma)) (hp : plainTest e = true) : PT X e (tT C W (mtru ma)) :=
  weakT (pt_truth ha (isTrue_of hp)) fun σ H Q ⟨ρ, env, hd, er, sh, p⟩ => seqE er sh p fun v H1 ρ1 hd1 d x er1 sh1 r1 p1 => by
    split at p1
    · rename_i b e1
      exact ⟨b, truth_rel hK sh1 r1 e1, p1.here sh1 rfl⟩
    · exact p1.elim
theorem bl_of {σ : L2.St} {H : Hp} {Q : Bool → Hp → Prop} (h : tT C W (mbl ma) σ H Q) : tE C W ma σ H fun x H1 => ∃ k, x = .bl k ∧ Q k H1 := by
  obtain ⟨ρ, env, hd, er, sh, p⟩ := h
  exact seqE er sh p fun v H1 ρ1 hd1 d x er1 sh1 r1 p1 => by
    split at p1
    · rename_i b
      exact ⟨b, of_bl r1, p1.here sh1 rfl⟩
    · exact p1.elim
theorem evt_cmp {op : CmpOp} {f : Op2} (ho : OpR X (compareOp op) (rO2 C f)) (ha : PE X a (tE C W ma)) (hb : PE X b (tE C W mb)) (hm : behindInMarks op b = false) : PT X (.Compare a [op] [b] pos) (tT C W (mbl (mop2 false f ma mb))) :=
  weakT (pt_cmpR ho ha hb hm) fun σ H Q h => seq_op2 (bl_of h)
theorem ev_ite (hc : PT X c (tT C W ta)) (ha : PE X a (tE C W ma)) (hb : PE X b (tE C W mb)) : PE X (.IfExp c a b pos) (tE C W (mite ta ma mb)) :=
  weakE (pe_ifExp hc ha hb) fun σ H Q ⟨ρ, env, hd, er, sh, p⟩ => seqT er sh p fun k H1 ρ1 hd1 x er1 sh1 p1 => by
    cases k with
    | true => exact ⟨ρ1, env, hd1, er1, sh1, p1⟩
    | false => exact ⟨ρ1, env, hd1, er1, sh1, p1⟩
theorem seq_fun {m : Bool} {f : OpN} {σ : L2.St} {H : Hp} {Q : VK} (h : tE C W (mfun m f ms) σ H Q) : tL C W ms σ H fun vs H1 => rON C f vs H1 Q := by
  obtain ⟨ρ, env, hd, er, sh, p⟩ := h
  exact seqL er sh p fun vs H1 ρ1 hd1 ds x er1 sh1 r1 p1 => ⟨ρ1, hd1, ds, sh1, r1, p1.fin sh1⟩
theorem ev_callB {m : Bool} {id : String} {x : Str} {pn : Pos} {f : OpN} (hc : CallR X (.builtin id) (rON C f)) (hg : Gl X x) (hm : X.mg x = none) (hv : bootBuiltins x = some (.builtin id)) (ha : PA X (e :: es) (tL C W ms))
    (hn : x ≠ "__name__") (hdb : (x == ("__debug__" : Str)) = false) (hs : noStars (e :: es) = true) : PE X (.Call (.Name x pn) (e :: es) [] pos) (tE C W (mfun m f ms)) := by
  have hs' : notStar e = true ∧ noStars es = true := by unfold noStars at hs; rwa [Bool.and_eq_true] at hs
  exact weakE (pe_callB hc hg hm hv ha hn hdb (starEach_at hs'.1) (plain_of hs'.2)) fun _ _ _ h => seq_fun h
end
end EV
namespace EV
open PySem PySem.Spec PyProof.Rows L2
def lenOf (d : D) (h : Hd) : Option Nat := match d with
  | .str s => some s.length
  | d => (seqOf d h).map List.length
def fLen : OpN
  | [d], h => (lenOf d h).map fun n => .v (.int n)
  | _, _ => none
def fAll : OpN
  | [d], h => match lstOf d h with
    | some xs => (blsOf xs).map fun bs => .v (.bl (bs.all id))
    | none => none
  | _, _ => none
def fAbs : OpN
  | [.int i], _ => some (.v (.int (if i < 0 then -i else i)))
  | _, _ => none
def fMax : OpN
  | [.int i, .int j], _ => some (.v (.int (if j > i then j else i)))
  | _, _ => none
def fMin : OpN
  | [.int i, .int j], _ => some (.v (.int (if j < i then j else i)))
  | _, _ => none
def fInt : OpN
  | [.int i], _ => some (.v (.int i))
  | [.bl b], _ => some (.v (.int (if b then 1 else 0)))
  | _, _ => none
def fDivmod : OpN
  | [.int i, .int j], _ => if 0 < j ∧ j < 1073741824 then some (.v (.tup [.int (i / j), .int (i % j)])) else none
  | _, _ => none
def fList : OpN
  | [d], h => (seqOf d h).map .new
  | _, _ => none
def fTuple : OpN
  | [.ktup _], _ => none
  | [d], h => (seqOf d h).map fun xs => .v (.tup xs)
  | _, _ => none
inductive TyN where
  | none | bool | int | str | tuple | list | dict
def TyN.nm : TyN → String
  | .none => "NoneType" | .bool => "bool" | .int => "int" | .str => "str" | .tuple => "tuple" | .list => "list" | .dict => "dict"
def tyOf (d : D) (h : Hd) : Option TyN := match d with
  | .non => some .none
  | .bl _ => some .bool
  | .int _ => some .int
  | .str _ => some .str
  | .tup _ => some .tuple
  | .lst _ => some .list
  | .scr _ => some .list
  | .dic _ _ => some .dict
  | .ref n => match h[n]? with
    | some (.lst _) => some .list
    | some (.dic _ _) => some .dict
    | _ => none
  | _ => none
def isSub : TyN → Ty → Bool
  | .bool, .bool => true | .bool, .int => true | .int, .int => true | .str, .str => true
  | .tuple, .tuple => true | .list, .list => true | .dict, .dict => true
  | _, _ => false
def fIsi : OpN
  | [d, .ty t], h => (tyOf d h).map fun n => .v (.bl (isSub n t))
  | _, _ => none
section
variable {X : Cx} {C : Ctx} {ρ : RhoT} {H : Hp} {hd : Hd} {pins : List (Addr × Obj)} {σ : L2.St} {s : Shared}
theorem relL1 {d : D} {vs : List V} (r : RelL C ρ H [d] vs) : ∃ v, vs = [v] ∧ Rel C ρ H d v := by
  simp only [RelL] at r
  obtain ⟨v, r, rfl, h, rfl⟩ := r
  exact ⟨v, rfl, h⟩
theorem relL2 {d e : D} {vs : List V} (r : RelL C ρ H [d, e] vs) : ∃ v w, vs = [v, w] ∧ Rel C ρ H d v ∧ Rel C ρ H e w := by
  simp only [RelL] at r
  obtain ⟨v, r, rfl, h, w, r, rfl, h2, rfl⟩ := r
  exact ⟨v, w, rfl, h, h2⟩
theorem bls_of : ∀ {xs : List D} {bs : List Bool} {vs : List V}, blsOf xs = some bs → RelL C ρ H xs vs → vs = bs.map V.bl
  | [], _, _, e, r => by simp only [blsOf, Option.some.injEq] at e; subst e; rw [RelL.nil_iff] at r; exact r
  | .bl b :: xs, _, _, e, r => by
    simp only [blsOf, Option.map_eq_some_iff] at e
    obtain ⟨bs, e, rfl⟩ := e
    simp only [RelL] at r
    obtain ⟨v, vs, rfl, r1, r2⟩ := r
    rw [of_bl r1, bls_of e r2]; rfl
  | .non :: _, _, _, e, _ => by cases e
  | .int _ :: _, _, _, e, _ => by cases e
  | .str _ :: _, _, _, e, _ => by cases e
  | .tup _ :: _, _, _, e, _ => by cases e
  | .lst _ :: _, _, _, e, _ => by cases e
  | .ref _ :: _, _, _, e, _ => by cases e
  | .fn _ :: _, _, _, e, _ => by cases e
  | .ty _ :: _, _, _, e, _ => by cases e
  | .cl _ :: _, _, _, e, _ => by cases e
  | .scr _ :: _, _, _, e, _ => by cases e
  | .dic _ _ :: _, _, _, e, _ => by cases e
  | .dct _ _ :: _, _, _, e, _ => by cases e
  | .exn _ _ _ :: _, _, _, e, _ => by cases e
  | .clo _ _ _ _ _ _ :: _, _, _, e, _ => by cases e
  | .ktup _ :: _, _, _, e, _ => by cases e
theorem fn_len (hK : X.K = C.K) : CallR X (.builtin "len") (rON C fLen) := by
  intro pins s σ H xs us Q I r ⟨ρ, hd, ds, sh, rl, p⟩
  unfold fLen at p
  split at p
  · rename_i d
    obtain ⟨v, rfl, r1⟩ := relL1 rl
    have go : ∀ d : D, (seqOf d hd).map List.length = lenOf d hd → Rel C ρ H d v → PostO C ρ H hd Q ((lenOf d hd).map fun n => .v (.int n)) → wpAny (model X.prog X.w) X.A (call (.builtin "len") us) (EP X pins σ Q) X.xe s := fun d e r1 p => by
      rw [← e] at p
      cases hq : seqOf d hd with
      | none => rw [hq] at p; exact p.elim
      | some ys =>
        rw [hq] at p
        obtain ⟨a, vs, rfl, t, rl, z⟩ := seq_of sh r1 hq
        exact L2.call_len_seq pins s σ H _ us Q I r ⟨a, vs, rfl, hK ▸ t, by rw [← rl.length]; exact p.v sh rel_int⟩
    cases d with
    | str z =>
      obtain ⟨rfl, hz⟩ := of_str r1
      exact L2.call_len_str pins s σ H _ us Q I r ⟨z, rfl, hz, p.v sh rel_int⟩
    | tup _ => exact go _ rfl r1 p
    | ktup _ => exact go _ rfl r1 p
    | lst _ => exact go _ rfl r1 p
    | ref _ => exact go _ rfl r1 p
    | scr _ => exact go _ rfl r1 p
    | _ => exact p.elim
  · exact p.elim
theorem fn_all (hK : X.K = C.K) (hc : X.calm = true) : CallR X (.builtin "all") (rON C fAll) := by
  intro pins s σ H xs us Q I r ⟨ρ, hd, ds, sh, rl, p⟩
  unfold fAll at p
  split at p
  · split at p
    · rename_i ys e
      obtain ⟨v, rfl, r1⟩ := relL1 rl
      cases hb : blsOf ys with
      | none => rw [hb] at p; exact p.elim
      | some bs =>
        rw [hb] at p
        obtain ⟨a, vs, rfl, t, rl2, z⟩ := lst_of sh r1 e
        cases bls_of hb rl2
        exact cr_all hc pins s σ H _ us Q I r ⟨a, bs, rfl, .of t, p.v sh rel_bl⟩
    · exact p.elim
  · exact p.elim
theorem fn_abs : CallR X (.builtin "abs") (rON C fAbs) := by
  intro pins s σ H xs us Q I r ⟨ρ, hd, ds, sh, rl, p⟩
  unfold fAbs at p
  split at p
  · obtain ⟨v, rfl, r1⟩ := relL1 rl
    cases of_int r1
    exact call_abs pins s σ H _ us Q I r ⟨_, rfl, p.v sh rel_int⟩
  · exact p.elim
theorem fn_max (hc : X.calm = true) : CallR X (.builtin "max") (rON C fMax) := by
  intro pins s σ H xs us Q I r ⟨ρ, hd, ds, sh, rl, p⟩
  unfold fMax at p
  split at p
  · obtain ⟨v, w, rfl, r1, r2⟩ := relL2 rl
    cases of_int r1; cases of_int r2
    exact call_max2 hc pins s σ H _ us Q I r ⟨_, _, rfl, p.v sh rel_int⟩
  · exact p.elim
theorem fn_min (hc : X.calm = true) : CallR X (.builtin "min") (rON C fMin) := by
  intro pins s σ H xs us Q I r ⟨ρ, hd, ds, sh, rl, p⟩
  unfold fMin at p
  split at p
  · obtain ⟨v, w, rfl, r1, r2⟩ := relL2 rl
    cases of_int r1; cases of_int r2
    exact call_min2 hc pins s σ H _ us Q I r ⟨_, _, rfl, p.v sh rel_int⟩
  · exact p.elim
theorem fn_divmod : CallR X (.builtin "divmod") (rON C fDivmod) := by
  intro pins s σ H xs us Q I r ⟨ρ, hd, ds, sh, rl, p⟩
  unfold fDivmod at p
  split at p
  · split at p
    · rename_i hj
      obtain ⟨v, w, rfl, r1, r2⟩ := relL2 rl
      cases of_int r1; cases of_int r2
      refine call_divmod pins s σ H _ us Q I r ⟨_, _, rfl, hj, fun a ha => ?_⟩
      exact p _ _ (Ext.upd_new ha) (sh.upd_new ha) (rel_tup sh ha (RelL.cons rel_int (RelL.cons rel_int RelL.nil)) (by simp [sizeLine_eq]))
    · exact p.elim
  · exact p.elim
end
end EV
namespace EV
open PySem PySem.Spec PyProof.Rows L2
def cutD (xs : List D) (lo hi : Option Int) : List D := (xs.drop (HT.sIx xs.length 0 lo)).take (HT.sIx xs.length xs.length hi - HT.sIx xs.length 0 lo)
abbrev OpS := D → Option Int → Option Int → Hd → Option OV
def oSl : OpS := fun d lo hi h => match d with
  | .str s => some (.v (.str (cutS s lo hi)))
  | .tup xs => some (.v (.tup (cutD xs lo hi)))
  | d => (lstOf d h).map fun xs => .new (cutD xs lo hi)
/-- a slice's part -/
def mpart : Option (M D) → M (Option Int)
  | none => fun _ h => .ok none h
  | some a => fun env h => (a env h).bind fun x h1 => match x with
    | .int i => .ok (some i) h1
    | _ => .bad
def msl (m : Bool) (a : M D) (lo hi : M (Option Int)) : M D := fun env h => (a env h).bind fun x h1 => (lo env h1).bind fun l h2 => (hi env h2).bind fun u h3 => fin m (oSl x l u h3) h3
section
variable {X : Cx} {C : Ctx} {W : WX} {pos p2 : Pos} {a b c e : Expr} {es rest : List Expr} {ma mb mc' : M D} {ms : M (List D)} {ta tb : M Bool}
variable {ρ : RhoT} {H : Hp} {hd : Hd} {env : Env} {σ : L2.St}
def mfz (a : M D) : M D := fun env h => (a env h).bind fun x h1 => match x with
  | .ref n => match h1[n]? with
    | some (.lst xs) => .ok (.lst xs) (h1.set n .dead)
    | some (.dic ks xs) => .ok (.dic ks xs) (h1.set n .dead)
    | some (.dct ks xs) => .ok (.dct ks xs) (h1.set n .dead)
    | _ => .bad
  | _ => .bad
abbrev OpM := D → List D → Hd → Option (D × Hd)
def resM : Option (D × Hd) → Res D
  | none => .bad
  | some (d, h) => .ok d h
/-- g: whether the receiver is of the method's type -/
def mmeth (g : D → Hd → Bool) (f : OpM) (o : M D) (as : M (List D)) : M D := fun env h => (o env h).bind fun x h1 => if g x h1 then (as env h1).bind fun xs h2 => resM (f x xs h2) else .bad
def isLst (d : D) (h : Hd) : Bool := (lstOf d h).isSome
def isStr (d : D) (_ : Hd) : Bool := match d with
  | .str _ => true
  | _ => false
def fAppend : OpM
  | .ref n, [y], h => match h[n]? with
    | some (.lst xs) => if xs.length < sizeLine then some (.non, h.set n (.lst (xs ++ [y]))) else none
    | _ => none
  | _, _, _ => none
def fJoin : OpM
  | .str a, [d], h => match seqOf d h with
    | some ys => match strsOf ys with
      | some zs => if (zs.map (·.length)).sum + zs.length * a.length ≤ 16777216 then some (.str (Str.join a zs), h) else none
      | none => none
    | none => none
  | _, _, _ => none
theorem ref_lst {n : Nat} {xs : List D} {v : V} (sh : SimH C ρ H hd) (r : Rel C ρ H (.ref n) v) (h : hd[n]? = some (.lst xs)) : ∃ a vs, v = .ref a ∧ ρ.r[n]? = some (some a) ∧ H a = some (.lst vs) ∧ RelL C ρ H xs vs ∧ xs.length ≤ sizeLine := by
  simp only [Rel] at r
  obtain ⟨a, rfl, f⟩ := r
  obtain ⟨f', vs, t, rl, z⟩ := sh.lst_at h f
  exact ⟨a, vs, rfl, f', t, rl, z⟩
end
end EV
namespace EV
open PySem PySem.Spec PyProof.Rows L2
section
variable {X : Cx} {C : Ctx} {W : WX} {pos cpos apos p2 : Pos} {a b c e o tg : Expr} {es rest : List Expr} {ma mb mo : M D} {ms : M (List D)} {ta tb : M Bool}
variable {ρ : RhoT} {H : Hp} {hd : Hd} {env : Env} {σ : L2.St}
structure IRel (C : Ctx) (ρ : RhoT) (H : Hp) (items : List D) (J : It) : Prop where
  len : items.length ≤ sizeLine
  go : ∀ (ρ' : RhoT) (H' : Hp) (i : Nat), Keeps ρ ρ' H H' → i < items.length → J.go i H'
  yld : ∀ (ρ' : RhoT) (H' : Hp) (i : Nat) (x : V) (H'' : Hp) (hd' : Hd) (d : D), Keeps ρ ρ' H H' → SimH C ρ' H' hd' → items[i]? = some d → J.yld i H' x H'' → Ext ρ' ρ' H' H'' ∧ SimH C ρ' H'' hd' ∧ Rel C ρ' H'' d x
  stop : ∀ (ρ' : RhoT) (H' : Hp), Keeps ρ ρ' H H' → J.stop items.length H'
abbrev MI := M (List D)
def tI (C : Ctx) (W : WX) (m : MI) : TI := fun σ H R => ∃ ρ env hd, EnvRel C ρ H env σ ∧ SimH C ρ H hd ∧ PostX C (IRel C) ρ H (fun c d H' => W c d σ H') R (m env hd)
theorem weakI {t t' : TI} (h : PI X tg e t) (w : ∀ σ H Q, t' σ H Q → t σ H Q) : PI X tg e t' := ⟨fun pins s σ H Q I q => h.run pins s σ H Q I (w σ H Q q)⟩
theorem orI {t t' : TI} (h : PI X tg e t) (h' : PI X tg e t') : PI X tg e (fun σ H Q => t σ H Q ∨ t' σ H Q) := ⟨fun pins s σ H Q I q => q.elim (h.run pins s σ H Q I) (h'.run pins s σ H Q I)⟩
def itemsOf : D → Option (List D)
  | .tup xs => some xs
  | .ktup xs => some xs
  | .lst xs => some xs
  | .scr ns => some (ns.map .int)
  | .str s => some (s.cps.toList.map fun c => .str ⟨#[c]⟩)
  | _ => none
def iseq (a : M D) : MI := fun env h => (a env h).bind fun x h1 => match itemsOf x with
  | some xs => .ok xs h1
  | none => .bad
/-- range(n), range(a, b) -/
def irange1 : List D → Option (List D)
  | [.int j] => if -(2 ^ 62) ≤ j ∧ j ≤ 16777216 then some ((List.range j.toNat).map fun k : Nat => .int (k : Int)) else none
  | _ => none
def irng (f : List D → Option (List D)) (as : M (List D)) : MI := fun env h => (as env h).bind fun xs h1 => match f xs with
  | some ys => .ok ys h1
  | _ => .bad
theorem irel_list {xs : List D} {a : Addr} {vs : List V} (hs : ∀ ρ' H', Keeps ρ ρ' H H' → SqL C.K H' a vs) (r : RelL C ρ H xs vs) (hz : xs.length ≤ sizeLine) : IRel C ρ H xs (Itl C.K a) where
  len := hz
  go := fun ρ' H' i k hi => by
    have hl := r.length
    exact ⟨vs, vs[i]'(by omega), hs ρ' H' k, by simp⟩
  yld := fun ρ' H' i x H'' hd' d k s e ⟨e1, e2⟩ => by
    subst e1
    obtain ⟨v, h1, h2⟩ := r.get e
    have := e2 vs (hs ρ' H'' k)
    rw [h1] at this; cases this
    exact ⟨Ext.refl, s, Rel.keeps k _ _ h2⟩
  stop := fun ρ' H' k => ⟨vs, hs ρ' H' k, by rw [r.length]; exact Nat.le_refl _⟩
theorem irel_tup {xs : List D} {a : Addr} {vs : List V} (hs : ∀ ρ' H', Keeps ρ ρ' H H' → SqT C.K H' a vs) (r : RelL C ρ H xs vs) (hz : xs.length ≤ sizeLine) : IRel C ρ H xs (Itt C.K a) where
  len := hz
  go := fun ρ' H' i k hi => by
    have hl := r.length
    exact ⟨vs, vs[i]'(by omega), hs ρ' H' k, by simp⟩
  yld := fun ρ' H' i x H'' hd' d k s e ⟨e1, e2⟩ => by
    subst e1
    obtain ⟨v, h1, h2⟩ := r.get e
    have := e2 vs (hs ρ' H'' k)
    rw [h1] at this; cases this
    exact ⟨Ext.refl, s, Rel.keeps k _ _ h2⟩
  stop := fun ρ' H' k => ⟨vs, hs ρ' H' k, by rw [r.length]; exact Nat.le_refl _⟩
theorem irel_range {lo : Int} {n : Nat} (hz : n ≤ sizeLine) : IRel C ρ H ((List.range n).map fun k : Nat => .int (lo + (k : Int))) (Itr lo n) where
  len := by simpa using hz
  go := fun ρ' H' i k hi => by show i < n; simpa using hi
  yld := fun ρ' H' i x H'' hd' d k s e ⟨e1, e2⟩ => by
    subst e1 e2
    have hi : i < n := by simpa using (List.getElem?_eq_some_iff.mp e).1
    rw [List.getElem?_map, List.getElem?_range hi] at e
    cases e; exact ⟨Ext.refl, s, rel_int⟩
  stop := fun ρ' H' k => by show n ≤ _; simp
theorem irel_str {z : Str} (hz : z.length ≤ sizeLine) : IRel C ρ H (z.cps.toList.map fun c => .str ⟨#[c]⟩) (Its z) where
  len := by rw [List.length_map, Array.length_toList]; exact hz
  go := fun ρ' H' i k hi => by show i < z.cps.size; simpa using hi
  yld := fun ρ' H' i x H'' hd' d k s e ⟨e1, c, e2, e3⟩ => by
    subst e1 e3
    rw [List.getElem?_map, Array.getElem?_toList, e2] at e
    cases e
    exact ⟨Ext.refl, s, rel_str (by show 1 ≤ sizeLine; rw [sizeLine_eq]; decide)⟩
  stop := fun ρ' H' k => by show z.cps.size ≤ _; simp
theorem evi_seq (hK : X.K = C.K) (he : PE X e (tE C W ma)) : PI X tg e (tI C W (iseq ma)) :=
  weakI (orI (pi_list he) (orI (pi_tup he) (pi_str he))) fun σ H R ⟨ρ, env, hd, er, sh, p⟩ => by
    cases hm : ma env hd with
    | bad => unfold iseq at p; rw [hm] at p; exact p.elim
    | exc x h =>
      refine .inl ⟨ρ, env, hd, er, sh, ?_⟩
      unfold iseq at p
      rw [hm] at p ⊢
      exact p
    | ok d h =>
      have pw := p
      unfold iseq at pw
      rw [hm] at pw
      have mk : ∀ {Q' : VK}, (∀ ρ' H' v, Ext ρ ρ' H H' → SimH C ρ' H' h → Rel C ρ' H' d v → Q' v H') → tE C W ma σ H Q' := fun q => ⟨ρ, env, hd, er, sh, by rw [hm]; exact q⟩
      cases d with
      | tup xs =>
        refine .inr (.inl (mk fun ρ1 H1 v x s r => ?_))
        have r0 := r
        simp only [Rel] at r
        obtain ⟨a, vs, rfl, t, rl, z⟩ := r
        exact ⟨a, rfl, ⟨vs, hK ▸ t.sq⟩, hK ▸ pw ρ1 H1 _ x s (irel_tup (fun ρ' H' k => (t.keeps k).sq) rl z)⟩
      | ktup xs =>
        refine .inr (.inl (mk fun ρ1 H1 v x s r => ?_))
        simp only [Rel] at r
        obtain ⟨a, vs, rfl, t, rl, z⟩ := r
        exact ⟨a, rfl, ⟨vs, .inr (hK ▸ t)⟩, hK ▸ pw ρ1 H1 _ x s (irel_tup (fun ρ' H' k => .inr t) rl z)⟩
      | lst xs =>
        refine .inl (mk fun ρ1 H1 v x s r => ?_)
        simp only [Rel] at r
        obtain ⟨a, vs, rfl, t, rl, z⟩ := r
        exact ⟨a, rfl, ⟨vs, .of t.1⟩, hK ▸ pw ρ1 H1 _ x s (irel_list (fun ρ' H' k => .of (k.frz _ _ t.1 noT_lst t.2).1) rl z)⟩
      | scr ns =>
        refine .inl (mk fun ρ1 H1 v x s r => ?_)
        simp only [Rel] at r
        obtain ⟨a, rfl, t, z⟩ := r
        exact ⟨a, rfl, ⟨_, hK ▸ t.sq⟩, hK ▸ pw ρ1 H1 _ x s (irel_list (fun ρ' H' k => (t.keeps k).sq) relL_ints (by simpa using z))⟩
      | str z =>
        refine .inr (.inr (mk fun ρ1 H1 v x s r => ?_))
        exact ⟨z, (of_str r).1, pw ρ1 H1 _ x s (irel_str (of_str r).2)⟩
      | _ => exact pw.elim
theorem evi_range1 {p q : Pos} (hg : Gl X "range") (hm : X.mg "range" = none) (ha : PA X [a] (tL C W ms)) (hs : notStar a = true) : PI X tg (.Call (.Name "range" p) [a] [] q) (tI C W (irng irange1 ms)) :=
  weakI (pi_range1 hg hm ha (starEach_at hs)) fun σ H R ⟨ρ, env, hd, er, sh, p⟩ => by
    refine ⟨ρ, env, hd, er, sh, ?_⟩
    unfold irng at p
    refine (PostX.bind (R1 := RelL C) p).imp (fun vs H1 ⟨ρ1, hd1, ds, x, s, r, q⟩ => ?_) fun _ _ _ z => z
    unfold irange1 at q
    split at q
    · rename_i ys e
      split at e
      · rename_i j
        split at e
        · rename_i hj
          cases e
          obtain ⟨v, rfl, r1⟩ := relL1 r
          cases of_int r1
          refine ⟨j, rfl, hj.1, by omega, ?_⟩
          have ir : IRel C ρ1 H1 ((List.range j.toNat).map fun k : Nat => .int (0 + (k : Int))) (Itr 0 j.toNat) := irel_range (by rw [sizeLine_eq]; omega)
          simp only [Int.zero_add] at ir
          exact q.here s ir
        · cases e
      · cases e
    · exact q.elim
abbrev MG := D → Env → Hd → Option (Env × Hd)
/-- sl: the slots that it sets -/
def tG (C : Ctx) (sl : List Nat) (f : MG) : TG := fun v σ H Q => ∃ ρ env hd d, EnvRel C ρ H env σ ∧ SimH C ρ H hd ∧ Rel C ρ H d v ∧
  match f d env hd with
  | none => False
  | some (env', hd') => ∀ ρ' H' σ', Ext ρ ρ' H H' → SimH C ρ' H' hd' → EnvRel C ρ' H' env' σ' → (σ'.length = σ.length ∧ ∀ j : Nat, j ∉ sl → σ'[j]? = σ[j]?) → Q σ' H'
def gname (i : Nat) : MG := fun d env h => some (env.set i (some d), h)
def gtup (gs : List MG) : MG := fun d env h => match d with
  | .tup xs => if xs.length = gs.length then go gs xs env h else none
  | .lst xs => if xs.length = gs.length then go gs xs env h else none
  | _ => none
where go : List MG → List D → Env → Hd → Option (Env × Hd)
  | g :: gs, x :: xs, env, h => match g x env h with
    | some (env', h') => go gs xs env' h'
    | none => none
  | _, _, env, h => some (env, h)
def tGs (C : Ctx) (sl : List Nat) (gs : List MG) : TGs := fun vs σ H Q => ∃ ρ env hd ds, EnvRel C ρ H env σ ∧ SimH C ρ H hd ∧ RelL C ρ H ds vs ∧ ds.length = gs.length ∧
  match gtup.go gs ds env hd with
  | none => False
  | some (env', hd') => ∀ ρ' H' σ', Ext ρ ρ' H H' → SimH C ρ' H' hd' → EnvRel C ρ' H' env' σ' → (σ'.length = σ.length ∧ ∀ j : Nat, j ∉ sl → σ'[j]? = σ[j]?) → Q σ' H'
theorem weakG {t t' : TG} (h : PG X tg t) (w : ∀ v σ H Q, t' v σ H Q → t v σ H Q) : PG X tg t' := ⟨fun pins s σ H v u Q I r q => h.run pins s σ H v u Q I r (w v σ H Q q)⟩
theorem weakGs {ts : List Expr} {t t' : TGs} (h : PGs X ts t) (w : ∀ v σ H Q, t' v σ H Q → t v σ H Q) : PGs X ts t' := ⟨fun pins s σ H v u Q I r q => h.run pins s σ H v u Q I r (w v σ H Q q)⟩
theorem evg_name {i : Nat} (h : PG X tg (gName i)) : PG X tg (tG C [i] (gname i)) := weakG h fun v σ H Q ⟨ρ, env, hd, d, er, sh, r, q⟩ =>
  q ρ H _ Ext.refl sh (er.set i r) ⟨by simp, fun j hj => List.getElem?_set_ne (fun z => hj (by simp [z]))⟩
theorem evgs_nil : PGs X [] (tGs C [] []) := weakGs pgs_nil fun vs σ H Q ⟨ρ, env, hd, ds, er, sh, r, hl, q⟩ => by
  have e : ds = [] := by simpa using hl
  subst e
  rw [RelL.nil_iff] at r
  exact ⟨r, q ρ H σ Ext.refl sh er ⟨rfl, fun _ _ => rfl⟩⟩
theorem assign_at {env : PySem.Env} (h : notStar e = true) : (assignEach (e :: es) env).map (·.2) = assign e env :: (assignEach es env).map (·.2) := by
  cases e <;> first | rfl | cases h
theorem evgs_cons {s1 s2 : List Nat} {g : MG} {gs : List MG} (h1 : PG X e (tG C s1 g)) (h2 : PGs X es (tGs C s2 gs)) (hs : notStar e = true) : PGs X (e :: es) (tGs C (s1 ++ s2) (g :: gs)) :=
  weakGs (pgs_cons h1 h2 (assign_at hs)) fun vs σ H Q ⟨ρ, env, hd, ds, er, sh, r, hl, q⟩ => by
    cases ds with
    | nil => simp at hl
    | cons d ds =>
      simp only [RelL] at r
      obtain ⟨v, vr, rfl, r1, r2⟩ := r
      refine ⟨v, vr, rfl, ρ, env, hd, d, er, sh, r1, ?_⟩
      unfold gtup.go at q
      cases hg : g d env hd with
      | none => rw [hg] at q; exact q
      | some p =>
        obtain ⟨env', hd'⟩ := p
        rw [hg] at q
        intro ρ' H' σ' x s er' hl'
        refine ⟨ρ', env', hd', ds, er', s, RelL.ext x _ _ r2, by simpa using hl, ?_⟩
        dsimp only at q
        cases hr : gtup.go gs ds env' hd' with
        | none => rw [hr] at q; exact q
        | some p2 =>
          rw [hr] at q
          exact fun ρ2 H2 σ2 y s2 e2 l2 => q ρ2 H2 σ2 (x.trans y) s2 e2 ⟨l2.1.trans hl'.1, fun j hj => (l2.2 j fun z => hj (List.mem_append_right _ z)).trans (hl'.2 j fun z => hj (List.mem_append_left _ z))⟩
theorem findStar {env : PySem.Env} : ∀ {es : List Expr}, noStars es = true → (assignEach es env).findIdx? (·.1) = none ∧ (assignEach es env).length = es.length
  | [], _ => ⟨rfl, rfl⟩
  | e :: es, h => by
    unfold noStars at h
    rw [Bool.and_eq_true] at h
    obtain ⟨i1, i2⟩ := findStar (env := env) h.2
    have e1 : assignEach (e :: es) env = (false, assign e env) :: assignEach es env := by
      have := h.1
      cases e <;> first | rfl | cases this
    rw [e1]
    refine ⟨?_, by simp [i2]⟩
    rw [List.findIdx?_cons, i1]
    rfl
theorem orG {tg : Expr} {t t' : TG} (h : PG X tg t) (h' : PG X tg t') : PG X tg (fun v σ H Q => t v σ H Q ∨ t' v σ H Q) := ⟨fun pins s σ H v u Q I r q => q.elim (h.run pins s σ H v u Q I r) (h'.run pins s σ H v u Q I r)⟩
theorem evg_tup {sl : List Nat} {gs : List MG} {k : Nat} (hK : X.K = C.K) (hc : X.calm = true) (h : PGs X es (tGs C sl gs)) (hs : noStars es = true) (hl : es.length = gs.length) : PG X (.Tuple es k pos) (tG C sl (gtup gs)) :=
  weakG (orG (pg_tup hc h (n := gs.length) (by rw [(findStar hs).2, hl]) (findStar hs).1) (pg_unl hc h (n := gs.length) (by rw [(findStar hs).2, hl]) (findStar hs).1)) fun v σ H Q ⟨ρ, env, hd, d, er, sh, r, q⟩ => by
    unfold gtup at q
    cases d with
    | tup xs =>
      left
      dsimp only at q
      split at q
      · exact q.elim
      · rename_i env' hd' hx
        split at hx
        · rename_i hl2
          obtain ⟨a, vs, rfl, t, rl, z⟩ := tup_of r
          refine ⟨a, vs, rfl, hK ▸ t, by rw [← rl.length]; exact hl2, ρ, env, hd, xs, er, sh, rl, hl2, ?_⟩
          rw [hx]
          exact q
        · cases hx
    | lst xs =>
      right
      dsimp only at q
      split at q
      · exact q.elim
      · rename_i env' hd' hx
        split at hx
        · rename_i hl2
          simp only [Rel] at r
          obtain ⟨a, vs, rfl, t, rl, z⟩ := r
          refine ⟨a, vs, rfl, .of t.1, by rw [← rl.length]; exact hl2, ρ, env, hd, xs, er, sh, rl, hl2, ?_⟩
          rw [hx]
          exact q
        · cases hx
    | _ => exact q.elim
end
end EV
namespace EV
open PySem PySem.Spec PyProof.Rows L2
section
variable {X : Cx} {C : Ctx} {W : WX} {pos cpos apos p2 : Pos} {a b c e o tg t i : Expr} {es rest : List Expr} {ma mb mo mi : M D} {ms : M (List D)} {ta tb : M Bool}
variable {ρ : RhoT} {H : Hp} {hd : Hd} {env : Env} {σ : L2.St}
/-- a, .., *r: what is left over is a new list -/
def gstar (gs : List MG) : MG := fun d env h => match d with
  | .tup xs => if gs.length ≤ xs.length + 1 ∧ 0 < gs.length then gtup.go gs (xs.take (gs.length - 1) ++ [.lst (xs.drop (gs.length - 1))]) env h else none
  | _ => none
/-- o[i] = v, a list -/
def gsub (mo mi : M D) : MG := fun d env h => match mo env h with
  | .ok (.ref n) h1 => match mi env h1 with
    | .ok (.int k) h2 => match h2[n]? with
      | some (.lst xs) => if 0 ≤ k ∧ k < xs.length then some (env, h2.set n (.lst (xs.set k.toNat d))) else none
      | _ => none
    | _ => none
  | _ => none
def subOk : Expr → Bool
  | .Slice _ _ _ _ => false
  | _ => true
theorem assign_sub {v : Value} (h : subOk i = true) : assign (.Subscript o i pos) X.env v = (do
      let ov ← holding [v] (eval o X.env)
      let iv ← holding [v, ov] (eval i X.env)
      standAt pos
      holding [v, ov, iv] (setItem ov iv v)
      release [v, ov, iv] []) := by
  cases i <;> first | rfl | cases h
theorem evg_sub (ho : PE X o (tE C W mo)) (hi : PE X i (tE C W mi)) (hs : subOk i = true) : PG X (.Subscript o i pos) (tG C [] (gsub mo mi)) :=
  weakG (pg_sub ho hi set_list fun v => assign_sub hs) fun v σ H Q ⟨ρ, env, hd, d, er, sh, r, q⟩ => by
    unfold gsub at q
    split at q
    · exact q.elim
    · rename_i env' hd' hx
      split at hx
      · rename_i n h1 e1
        split at hx
        · rename_i k h2 e2
          split at hx
          · rename_i xs hn
            split at hx
            · rename_i hk
              cases hx
              refine ⟨ρ, env, hd, er, sh, ?_⟩
              rw [e1]
              intro ρ1 H1 v1 x1 sh1 r1
              refine ⟨ρ1, env, h1, er.ext x1, sh1, ?_⟩
              rw [e2]
              intro ρ2 H2 v2 x2 sh2 r2
              cases of_int r2
              obtain ⟨a, vs, rfl, f, t, rl, z⟩ := ref_lst sh2 (Rel.ext x2 _ _ r1) hn
              have hl := rl.length
              refine ⟨a, vs, k, k.toNat, rfl, rfl, t, by unfold ixN; rw [if_pos hk.1, if_pos (by omega)], ?_⟩
              have x3 := Ext.store (o := .lst (vs.set k.toNat v)) f t
              exact q ρ2 _ σ ((x1.trans x2).trans x3) (sh2.store f t (rl.set (Rel.ext (x1.trans x2) _ _ r) _) (by simpa using z)) (er.ext ((x1.trans x2).trans x3)) ⟨rfl, fun _ _ => rfl⟩
            · cases hx
          · cases hx
        · cases hx
      · cases hx
end
end EV
namespace EV
open PySem PySem.Spec PyProof.Rows L2
def wipeE (env : Env) : List Nat → Env
  | [] => env
  | v :: vs => (wipeE env vs).set v none
def compLoop (g : MG) (cond : M Bool) (elt : M D) (env0 : Env) : List D → List D → Hd → Option (List D × Hd)
  | [], acc, h => some (acc, h)
  | x :: xs, acc, h => match g x env0 h with
    | none => none
    | some (env1, h1) => match cond env1 h1 with
      | .ok true h2 => match elt env1 h2 with
        | .ok y h3 => compLoop g cond elt env0 xs (acc ++ [y]) h3
        | _ => none
      | .ok false h2 => compLoop g cond elt env0 xs acc h2
      | _ => none
def mcomp (m : Bool) (own : List Nat) (it : MI) (g : MG) (cond : M Bool) (elt : M D) : M D := fun env h => (it env h).bind fun items h1 =>
  match compLoop g cond elt (wipeE env own) items [] h1 with
  | some (acc, h2) => fin m (some (.new acc)) h2
  | none => .bad
def yes : M Bool := fun _ h => .ok true h
abbrev W0 : WX := fun _ _ _ _ => False
section
variable {X : Cx} {C : Ctx} {W : WX} {pos cpos apos p2 : Pos} {a b c e o tg t i elt iter : Expr} {es rest ifs : List Expr} {ma mb mo mi : M D} {ms : M (List D)} {ta tb : M Bool}
variable {ρ ρ' ρ'' : RhoT} {H H' H'' : Hp} {hd : Hd} {env : Env} {σ : L2.St}
theorem EnvRel.wipe (h : EnvRel C ρ H env σ) : ∀ vs : List Nat, EnvRel C ρ H (wipeE env vs) (wipe σ vs)
  | [] => h
  | v :: vs => (EnvRel.wipe h vs).forget v
theorem wipe_same {σ σ' : L2.St} {vs sl : List Nat} (hsub : ∀ j ∈ sl, j ∈ vs) (hl : σ'.length = (wipe σ vs).length) (h : ∀ j : Nat, j ∉ sl → σ'[j]? = (wipe σ vs)[j]?) : wipe σ' vs = wipe σ vs := by
  have get : ∀ (σ : L2.St) (vs : List Nat) (j : Nat), (L2.wipe σ vs)[j]? = if j ∈ vs ∧ j < σ.length then some none else σ[j]? := by
    intro σ vs
    induction vs with
    | nil => intro j; simp [L2.wipe]
    | cons v vs ih =>
      intro j
      unfold L2.wipe
      by_cases hv : v = j
      · subst hv
        by_cases hj : v < σ.length
        · rw [List.getElem?_set_self (by rw [wipe_length]; exact hj), if_pos ⟨List.mem_cons_self, hj⟩]
        · rw [List.getElem?_eq_none (by rw [List.length_set, wipe_length]; omega), if_neg (fun z => hj z.2), List.getElem?_eq_none (by omega)]
      · rw [List.getElem?_set_ne hv, ih j]
        have : j ∈ v :: vs ↔ j ∈ vs := by simp [Ne.symm hv]
        simp only [this]
  rw [wipe_length] at hl
  apply List.ext_getElem?
  intro j
  rw [get σ' vs j, get σ vs j, hl]
  by_cases hj : j ∈ vs ∧ j < σ.length
  · rw [if_pos hj, if_pos hj]
  · rw [if_neg hj, if_neg hj]
    by_cases hs : j ∈ sl
    · have : ¬ j < σ.length := fun z => hj ⟨hsub j hs, z⟩
      rw [List.getElem?_eq_none (by omega), List.getElem?_eq_none (by omega)]
    · rw [h j hs, get σ vs j, if_neg hj]
theorem Ext.keepsHide {p : Addr} (x : Ext ρ ρ' H H') (hp : H p = none) : Keeps ρ (ρ'.hide p) H H' :=
  ⟨fun a o h nt f => ⟨x.keep a o h nt f.1, (show Unr ρ' a from f.1.ext x h), fun z => by
    rcases List.mem_cons.mp z with z | z
    · exact ne_of_none h hp z
    · rw [x.hid] at z; exact f.2 z⟩, x.old⟩
theorem Ext.unhide {p : Addr} {ρ5 : Rho} (x : Ext (ρ'.hide p) ρ5 H' H'') : Ext ρ' ⟨ρ5.r, ρ'.hid⟩ H' H'' := ⟨x.le, x.old, x.new, x.keep, x.dom, rfl, x.tabs⟩
theorem Ext.grow {p : Addr} {o : HO} (x : Ext ρ ρ' H H') (hp : H p = none) (pl : ∀ u, H' p = some u → Pln u) : Ext ρ ρ' H (upd H' p o) where
  le := x.le
  old := x.old
  new := x.new
  keep := fun a u e nt f => by rw [upd_ne (ne_of_none e hp)]; exact x.keep a u e nt f
  dom := fun a e => by
    by_cases q : a = p
    · rw [q]; exact hp
    · rw [upd_ne q] at e; exact x.dom a e
  hid := x.hid
  tabs := fun P q t => by
    cases e : H' p with
    | none => exact (x.tabs P q t).ext fun b u eb => by rw [upd_ne (ne_of_none eb e)]; exact eb
    | some u => exact tabS_upd (x.tabs P q t) e (pl u e)
/-- the state of a comprehension: the list so far stands at p, out of sight -/
structure CompSt (C : Ctx) (ρ1 : RhoT) (H1 : Hp) (p : Addr) (ρ' : RhoT) (H' : Hp) (hd' : Hd) (acc : List D) : Prop where
  ext : Ext ρ1 ρ' H1 H'
  sim : SimH C (ρ'.hide p) H' hd'
  lst : ∃ vs, H' p = some (.lst vs) ∧ RelL C (ρ'.hide p) H' acc vs
theorem comp_ok {own : List (Str × Nat)} {m : Bool} {sl : List Nat} {g : MG} {mi : MI} {tt : TT} {cond : M Bool} {me : M D}
    (hc : X.calm = true) (hN : X.N.Nodup) (hsl : ∀ j ∈ sl, j ∈ own.map (·.2))
    (ht : ∀ σ H Q, tT C W0 cond σ H Q → tt σ H Q) {Q : VK} (h : tE C W (mcomp m (own.map (·.2)) mi g cond me) σ H Q) : tLc (tI C W mi) (tG C sl g) tt (tE C W0 me) (own.map (·.2)) σ H Q := by
  obtain ⟨ρ, env, hd, er, sh, p⟩ := h
  refine ⟨ρ, env, hd, er, sh, (PostX.bind (R1 := IRel C) p).imp (fun J H1 ⟨ρ1, hd1, items, x1, s1, ir, q⟩ => ?_) fun _ _ _ z => z⟩
  have er1 := er.ext x1
  intro D hD
  cases hcl : compLoop g cond me (wipeE env (own.map (·.2))) items [] hd1 with
  | none => rw [hcl] at q; exact q.elim
  | some r =>
    obtain ⟨accF, hF⟩ := r
    rw [hcl] at q
    have hDh : D ∉ ρ1.hid := fun z => s1.hidS D z hD
    refine ⟨fun i k H' => k = items.length - i ∧ i ≤ items.length ∧ ∃ ρ' hd' acc, CompSt C ρ1 H1 D ρ' H' hd' acc ∧ acc.length ≤ i ∧ compLoop g cond me (wipeE env (own.map (·.2))) (items.drop i) acc hd' = some (accF, hF),
      ⟨_, rfl, Nat.zero_le _, ρ1, hd1, [], ⟨Ext.upd_new hD, s1.hide hD, [], upd_same, RelL.nil⟩, Nat.le_refl _, hcl⟩, ?_⟩
    rintro i k H' ⟨rfl, hi, ρ', hd', acc, st, hacc, hloop⟩
    have kp : Keeps ρ1 (ρ'.hide D) H1 H' := st.ext.keepsHide hD
    by_cases hlt : i < items.length
    · refine .inr ⟨ir.go _ H' i kp hlt, fun H' => ∃ ρ' hd' acc, CompSt C ρ1 H1 D ρ' H' hd' acc ∧ acc.length ≤ i + 1 ∧ compLoop g cond me (wipeE env (own.map (·.2))) (items.drop (i + 1)) acc hd' = some (accF, hF),
        fun H2 ⟨ρ2, hd2, acc2, s2, l2, c2⟩ => ⟨items.length - (i + 1), by omega, rfl, hlt, ρ2, hd2, acc2, s2, l2, c2⟩, fun x H2 hy => ?_⟩
      obtain ⟨y1, y2, y3⟩ := ir.yld _ H' i x H2 hd' (items[i]) kp st.sim (List.getElem?_eq_getElem hlt) hy
      have er2 : EnvRel C (ρ'.hide D) H2 (wipeE env (own.map (·.2))) (wipe σ (own.map (·.2))) := ((er1.keeps kp).ext y1).wipe _
      have hdr : items.drop i = items[i] :: items.drop (i + 1) := List.drop_eq_getElem_cons hlt
      rw [hdr] at hloop
      unfold compLoop at hloop
      cases hg : g items[i] (wipeE env (own.map (·.2))) hd' with
      | none => rw [hg] at hloop; cases hloop
      | some r1 =>
        obtain ⟨env1, h1⟩ := r1
        rw [hg] at hloop
        refine ⟨ρ'.hide D, wipeE env (own.map (·.2)), hd', items[i], er2, y2, y3, ?_⟩
        rw [hg]
        intro ρ3 H3 σ3 x3 s3 er3 hsl3
        refine ⟨wipe_same hsl hsl3.1 hsl3.2, ht σ3 H3 _ ⟨ρ3, env1, h1, er3, s3, ?_⟩⟩
        dsimp only at hloop
        -- the new state behind a turn
        have next : ∀ {ρ5 : RhoT} {H5 : Hp}, Ext (ρ'.hide D) ρ5 H2 H5 → ∃ ρ6 : RhoT, ρ5 = ρ6.hide D ∧ Ext ρ1 ρ6 H1 H5 ∧ ∀ vs, H' D = some (.lst vs) → H5 D = some (.lst vs) ∧ Keeps (ρ'.hide D) ρ5 H' H5 := by
          intro ρ5 H5 x5
          have xa := y1.trans x5
          refine ⟨⟨ρ5.r, ρ'.hid⟩, ?_, st.ext.trans xa.unhide, fun vs e => ⟨xa.keep D _ e noT_lst (fun n z => st.sim.apart n D z List.mem_cons_self), xa.keeps⟩⟩
          have := xa.hid
          cases ρ5
          simp only at this
          rw [this]
        cases hcd : cond env1 h1 with
        | bad => rw [hcd] at hloop; cases hloop
        | exc _ _ => rw [hcd] at hloop; cases hloop
        | ok b h2 =>
          rw [hcd] at hloop
          intro ρ4 H4 b' x4 s4 eb
          subst eb
          cases b' with
          | false =>
            rw [if_neg Bool.false_ne_true]
            obtain ⟨ρ6, rfl, xe, nx⟩ := next (x3.trans x4)
            obtain ⟨vs, hv, rv⟩ := st.lst
            obtain ⟨e5, kp5⟩ := nx vs hv
            exact ⟨ρ6, h2, acc, ⟨xe, s4, vs, e5, RelL.keeps kp5 _ _ rv⟩, by omega, hloop⟩
          | true =>
            rw [if_pos rfl]
            dsimp only at hloop
            refine ⟨ρ4, env1, h2, er3.ext x4, s4, ?_⟩
            cases hel : me env1 h2 with
            | bad => rw [hel] at hloop; cases hloop
            | exc _ _ => rw [hel] at hloop; cases hloop
            | ok y h3 =>
              rw [hel] at hloop
              intro ρ5 H5 v x5 s5 r5
              obtain ⟨ρ6, rfl, xe, nx⟩ := next ((x3.trans x4).trans x5)
              obtain ⟨vs, hv, rv⟩ := st.lst
              obtain ⟨e5, kp5⟩ := nx vs hv
              have lv := rv.length
              refine ⟨vs, e5, by have := ir.len; omega, ρ6, h3, acc ++ [y], ⟨xe.grow hD fun u e => s5.hidT _ List.mem_cons_self u e, s5.grow, vs ++ [v], upd_same, RelL.keeps Keeps.grow _ _ ((RelL.keeps kp5 _ _ rv).append (RelL.cons r5 RelL.nil))⟩, by simp; omega, hloop⟩
    · have hie : i = items.length := by omega
      subst hie
      rw [List.drop_length] at hloop
      unfold compLoop at hloop
      cases hloop
      obtain ⟨vs, hv, rv⟩ := st.lst
      refine .inl ⟨ir.stop _ H' kp, ?_⟩
      have hur : Unr ρ' D := fun n z => st.sim.apart n D z List.mem_cons_self
      have hnh : D ∉ ρ'.hid := by rw [st.ext.hid]; exact hDh
      have hz : accF.length ≤ sizeLine := Nat.le_trans hacc ir.len
      cases m with
      | true =>
        refine q (ρ'.push D) H' _ ?_ (st.sim.show_ hnh hur hv rv hz) (rel_new st.sim.unhide)
        exact ⟨by have := st.ext.le; simp; omega, fun n hn => by
          have hn' : n < ρ'.r.length := Nat.lt_of_lt_of_le hn st.ext.le
          rcases st.ext.old n hn with z | z
          · exact .inl (by rw [← z]; exact List.getElem?_append_left hn')
          · exact .inr (by rw [← z]; exact List.getElem?_append_left hn'), fun n a hn e => by
          rcases get_snoc e with z | ⟨_, z⟩
          · exact st.ext.new n a hn z
          · cases z; exact hD, st.ext.keep, st.ext.dom, st.ext.hid, st.ext.tabs⟩
      | false =>
        refine q ρ' H' _ st.ext st.sim.unhide ?_
        simp only [Rel]
        exact ⟨D, vs, rfl, ⟨hv, hur, hnh⟩, RelL.keeps Keeps.unhide _ _ rv, hz⟩
theorem ev_comp {scope : Scope} {own : List (Str × Nat)} {m : Bool} {sl : List Nat} {g : MG} {mi : MI} {tt : TT} {cond : M Bool} {me : M D} (hc : X.calm = true) (hN : X.N.Nodup) (hsl : ∀ j ∈ sl, j ∈ own.map (·.2))
    (hi : PI X tg iter (tI C W mi)) (ok : BlkOk X.N X.env.scope scope own)
    (hg : ∀ (s : Shared) (H : Hp) (Cc : Addr) (cl : List (Str × Addr)) (fp : List Addr), PG (X.blk s H scope (compEnvC scope cl Cc X.env) fp) tg (tG C sl g))
    (hts : ∀ (s : Shared) (H : Hp) (Cc : Addr) (cl : List (Str × Addr)) (fp : List Addr), PTs (X.blk s H scope (compEnvC scope cl Cc X.env) fp) ifs tt) (ht : ∀ σ H Q, tT C W0 cond σ H Q → tt σ H Q)
    (he : ∀ (s : Shared) (H : Hp) (Cc : Addr) (cl : List (Str × Addr)) (fp : List Addr), PE (X.blk s H scope (compEnvC scope cl Cc X.env) fp) elt (tE C W0 me)) (hs : ∀ x, foldedSetIterable iter X.env x = pure x) :
    PE X (.ListComp elt [⟨tg, iter, ifs, 0⟩] scope pos) (tE C W (mcomp m (own.map (·.2)) mi g cond me)) :=
  weakE (pe_lc hc hN hi ok hg hts he hs) fun σ H Q h => comp_ok hc hN hsl ht h
end
end EV
namespace EV
open PySem PySem.Spec PyProof.Rows L2
inductive Fl where
  | nx | bk | ct
  | ret (d : D)
  | exc (x : Exn)
abbrev SR := Option (Fl × Env × Hd)
abbrev MS := Env → Hd → SR
def EndOk (C : Ctx) (W : WX) (Z : Ends) (ρ' : RhoT) (H' : Hp) (σ' : L2.St) : Fl → Prop
  | .nx => Z.nx σ' H'
  | .bk => Z.bk σ' H'
  | .ct => Z.ct σ' H'
  | .ret d => ∀ v, Rel C ρ' H' d v → Z.rt v H'
  | .exc x => ∀ dd, XRel C ρ' H' x dd → W (.ref (C.ca x.cls)) dd σ' H'
def PostS (C : Ctx) (ρ : RhoT) (H : Hp) (W : WX) (Z : Ends) (n : Nat) : SR → Prop
  | none => False
  | some (fl, env', hd') => ∀ ρ' H' σ', Ext ρ ρ' H H' → SimH C ρ' H' hd' → EnvRel C ρ' H' env' σ' → σ'.length = n → EndOk C W Z ρ' H' σ' fl
def tS (C : Ctx) (W : WX) (m : MS) : TS := fun Z σ H => ∃ ρ env hd, EnvRel C ρ H env σ ∧ SimH C ρ H hd ∧ PostS C ρ H W Z σ.length (m env hd)
def ofE (m : M D) (k : D → MS) : MS := fun env h => match m env h with
  | .ok d h1 => k d env h1
  | .exc x h1 => some (.exc x, env, h1)
  | .bad => none
def ofT (m : M Bool) (k : Bool → MS) : MS := fun env h => match m env h with
  | .ok d h1 => k d env h1
  | .exc x h1 => some (.exc x, env, h1)
  | .bad => none
def sPass : MS := fun env h => some (.nx, env, h)
def sBrk : MS := fun env h => some (.bk, env, h)
def sCnt : MS := fun env h => some (.ct, env, h)
def sExpr (m : M D) : MS := ofE m fun _ env h => some (.nx, env, h)
def sRet (m : M D) : MS := ofE m fun d env h => some (.ret d, env, h)
def sRetN : MS := fun env h => some (.ret .non, env, h)
def sAsg (m : M D) (g : MG) : MS := ofE m fun d env h => match g d env h with
  | some (env', h') => some (.nx, env', h')
  | none => none
def sIf (c : M Bool) (a b : MS) : MS := ofT c fun k env h => if k then a env h else b env h
def sSeq (a b : MS) : MS := fun env h => match a env h with
  | some (.nx, env', h') => b env' h'
  | r => r
def forLoop (g : MG) (body : MS) : List D → MS
  | [], env, h => some (.nx, env, h)
  | x :: xs, env, h => match g x env h with
    | none => none
    | some (env1, h1) => match body env1 h1 with
      | some (.nx, e2, h2) => forLoop g body xs e2 h2
      | some (.ct, e2, h2) => forLoop g body xs e2 h2
      | some (.bk, e2, h2) => some (.nx, e2, h2)
      | r => r
def sFor (it : MI) (g : MG) (body : MS) : MS := fun env h => match it env h with
  | .ok items h1 => forLoop g body items env h1
  | .exc x h1 => some (.exc x, env, h1)
  | .bad => none
section
variable {X : Cx} {C : Ctx} {W : WX} {pos cpos apos p2 : Pos} {a b c e o tg t i elt iter : Expr} {es rest ifs : List Expr} {ma mb mo : M D} {mi : MI} {ms : M (List D)} {ta tb : M Bool} {st : Stmt} {sts body : List Stmt} {sa sb : MS}
variable {ρ ρ' ρ'' : RhoT} {H H' H'' : Hp} {hd : Hd} {env : Env} {σ : L2.St} {Z : Ends}
theorem PostS.ext {n : Nat} {r : SR} (x : Ext ρ ρ' H H') (p : PostS C ρ H W Z n r) : PostS C ρ' H' W Z n r := by
  cases r with
  | none => exact p
  | some q => obtain ⟨fl, env', hd'⟩ := q; exact fun ρ2 H2 σ2 y => p ρ2 H2 σ2 (x.trans y)
theorem PostS.here {fl : Fl} (p : PostS C ρ H W Z σ.length (some (fl, env, hd))) (sh : SimH C ρ H hd) (er : EnvRel C ρ H env σ) : EndOk C W Z ρ H σ fl := p ρ H σ Ext.refl sh er rfl
theorem goE {k : D → MS} (er : EnvRel C ρ H env σ) (sh : SimH C ρ H hd) (p : PostS C ρ H W Z σ.length (ofE ma k env hd)) {Q' : VK}
    (go : ∀ v H1 ρ1 hd1 d, Ext ρ ρ1 H H1 → EnvRel C ρ1 H1 env σ → SimH C ρ1 H1 hd1 → Rel C ρ1 H1 d v → PostS C ρ1 H1 W Z σ.length (k d env hd1) → Q' v H1) : tE C W ma σ H Q' := by
  refine ⟨ρ, env, hd, er, sh, ?_⟩
  unfold ofE at p
  cases hm : ma env hd with
  | bad => rw [hm] at p; exact p.elim
  | ok d h => rw [hm] at p; exact fun ρ1 H1 v x s r => go v H1 ρ1 h d x (er.ext x) s r (p.ext x)
  | exc x h => rw [hm] at p; exact fun ρ1 H1 dd y s r => p ρ1 H1 σ y s (er.ext y) rfl dd r
theorem goT {k : Bool → MS} (er : EnvRel C ρ H env σ) (sh : SimH C ρ H hd) (p : PostS C ρ H W Z σ.length (ofT ta k env hd)) {Q' : Bool → Hp → Prop}
    (go : ∀ b H1 ρ1 hd1, Ext ρ ρ1 H H1 → EnvRel C ρ1 H1 env σ → SimH C ρ1 H1 hd1 → PostS C ρ1 H1 W Z σ.length (k b env hd1) → Q' b H1) : tT C W ta σ H Q' := by
  refine ⟨ρ, env, hd, er, sh, ?_⟩
  unfold ofT at p
  cases hm : ta env hd with
  | bad => rw [hm] at p; exact p.elim
  | ok d h => rw [hm] at p; exact fun ρ1 H1 v x s r => by subst r; exact go v H1 ρ1 h x (er.ext x) s (p.ext x)
  | exc x h => rw [hm] at p; exact fun ρ1 H1 dd y s r => p ρ1 H1 σ y s (er.ext y) rfl dd r
theorem weakS {t t' : TS} (h : PS X st t) (w : ∀ Z σ H, t' Z σ H → t Z σ H) : PS X st t' := ⟨fun pins s σ H Z I q => h.run pins s σ H Z I (w Z σ H q)⟩
theorem weakSs {t t' : TS} (h : PSs X sts t) (w : ∀ Z σ H, t' Z σ H → t Z σ H) : PSs X sts t' := ⟨fun pins s σ H Z I q => h.run pins s σ H Z I (w Z σ H q)⟩
def isComp : Expr → Bool
  | .ListComp _ _ _ _ => true
  | .SetComp _ _ _ _ => true
  | .DictComp _ _ _ _ _ => true
  | _ => false
theorem evs_ret (he : PE X e (tE C W ma)) : PS X (.Return (some e) pos) (tS C W (sRet ma)) :=
  weakS (ps_ret he) fun Z σ H ⟨ρ, env, hd, er, sh, p⟩ => goE er sh p fun v H1 ρ1 hd1 d x er1 sh1 r1 p1 => (p1.here sh1 er1) v r1
theorem go_asg {sl : List Nat} {g : MG} (er : EnvRel C ρ H env σ) (sh : SimH C ρ H hd) (p : PostS C ρ H W Z σ.length (sAsg ma g env hd)) : tAsg (tE C W ma) (tG C sl g) Z σ H :=
  goE er sh p fun v H1 ρ1 hd1 d x er1 sh1 r1 p1 => by
    refine ⟨ρ1, env, hd1, d, er1, sh1, r1, ?_⟩
    split at p1
    · rename_i env' h' e
      rw [e]
      exact fun ρ2 H2 σ2 y s2 e2 l2 => p1 ρ2 H2 σ2 y s2 e2 l2.1
    · exact p1.elim
def swapOk (tg e : Expr) : Bool := !isComp e || (match tg with
  | .Name _ _ => false
  | _ => true)
theorem swaps_tg {tg e : Expr} {l : Nat} {env : PySem.Env} (h : swapOk tg e = true) : swapsWith e (some tg) l env = pure false := by
  cases e <;> cases tg <;> first | rfl | cases h
def plainAsg (tg e : Expr) : Bool := swapOk tg e && notStar tg && (match tg, e with
  | .Tuple _ _ _, .Tuple _ _ _ => false
  | .List _ _, .Tuple _ _ _ => false
  | _, _ => true)
theorem evs_asg {sl : List Nat} {g : MG} (he : PE X e (tE C W ma)) (hg : PG X tg (tG C sl g)) (hp : plainAsg tg e = true) : PS X (.Assign [tg] e pos) (tS C W (sAsg ma g)) := by
  unfold plainAsg at hp
  simp only [Bool.and_eq_true] at hp
  obtain ⟨⟨h1, h2⟩, h3⟩ := hp
  refine weakS (ps_asg he hg (swaps_tg h1) ?_ (assign_at h2)) fun Z σ H ⟨ρ, env, hd, er, sh, p⟩ => go_asg er sh p
  cases tg <;> cases e <;> first | rfl | cases h3
theorem evs_if (hc : PT X c (tT C W ta)) (ha : PSs X sts (tS C W sa)) (hb : PSs X body (tS C W sb)) : PS X (.If c sts body pos) (tS C W (sIf ta sa sb)) :=
  weakS (ps_if hc ha hb) fun Z σ H ⟨ρ, env, hd, er, sh, p⟩ => goT er sh p fun k H1 ρ1 hd1 x er1 sh1 p1 => by
    cases k with
    | true => exact ⟨ρ1, env, hd1, er1, sh1, p1⟩
    | false => exact ⟨ρ1, env, hd1, er1, sh1, p1⟩
theorem evss_nil : PSs X [] (tS C W sPass) := weakSs pss_nil fun Z σ H ⟨ρ, env, hd, er, sh, p⟩ => p.here sh er
theorem evss_one (h : PS X st (tS C W sa)) : PSs X [st] (tS C W sa) := pss_one h
theorem evss_cons (h : PS X st (tS C W sa)) (hr : PSs X sts (tS C W sb)) : PSs X (st :: sts) (tS C W (sSeq sa sb)) :=
  weakSs (pss_cons h hr) fun Z σ H ⟨ρ, env, hd, er, sh, p⟩ => by
    refine ⟨ρ, env, hd, er, sh, ?_⟩
    unfold sSeq at p
    cases hm : sa env hd with
    | none => rw [hm] at p; exact p
    | some q =>
      obtain ⟨fl, env', hd'⟩ := q
      rw [hm] at p
      cases fl with
      | nx => exact fun ρ2 H2 σ2 x s e l => ⟨ρ2, env', hd', e, s, by rw [l]; exact p.ext x⟩
      | bk => exact p
      | ct => exact p
      | ret d => exact p
      | exc x => exact p
theorem go_for {sl : List Nat} {g : MG} (h : tS C W (sFor mi g sa) Z σ H) : tFor (tI C W mi) (tG C sl g) (tS C W sa) Z σ H := by
    obtain ⟨ρ, env, hd, er, sh, p⟩ := h
    refine ⟨ρ, env, hd, er, sh, ?_⟩
    unfold sFor at p
    cases hm : mi env hd with
    | bad => rw [hm] at p; exact p.elim
    | exc x h => rw [hm] at p; exact fun ρ1 H1 dd y s r => p ρ1 H1 σ y s (er.ext y) rfl dd r
    | ok items h0 =>
      rw [hm] at p
      intro ρ1 H1 J x1 s1 ir
      refine ⟨fun i k σ' H' => k = items.length - i ∧ i ≤ items.length ∧ σ'.length = σ.length ∧ ∃ ρ' env' hd', Ext ρ1 ρ' H1 H' ∧ EnvRel C ρ' H' env' σ' ∧ SimH C ρ' H' hd' ∧ PostS C ρ' H' W Z σ.length (forLoop g sa (items.drop i) env' hd'),
        ⟨_, rfl, Nat.zero_le _, rfl, ρ1, env, h0, Ext.refl, er.ext x1, s1, p.ext x1⟩, ?_⟩
      rintro i k σ' H' ⟨rfl, hi', hl', ρ', env', hd', x', er', sh', p'⟩
      by_cases hlt : i < items.length
      · refine .inr ⟨ir.go ρ' H' i x'.keeps hlt, fun σ2 H2 => σ2.length = σ.length ∧ ∃ ρ2 env2 hd2, Ext ρ1 ρ2 H1 H2 ∧ EnvRel C ρ2 H2 env2 σ2 ∧ SimH C ρ2 H2 hd2 ∧ PostS C ρ2 H2 W Z σ.length (forLoop g sa (items.drop (i + 1)) env2 hd2),
          fun σ2 H2 ⟨l2, ρ2, env2, hd2, y1, y2, y3, y4⟩ => ⟨items.length - (i + 1), by omega, rfl, hlt, l2, ρ2, env2, hd2, y1, y2, y3, y4⟩, fun x H2 hy => ?_⟩
        obtain ⟨y1, y2, y3⟩ := ir.yld ρ' H' i x H2 hd' items[i] x'.keeps sh' (List.getElem?_eq_getElem hlt) hy
        rw [List.drop_eq_getElem_cons hlt] at p'
        unfold forLoop at p'
        refine ⟨ρ', env', hd', items[i], er'.ext y1, y2, y3, ?_⟩
        cases hg1 : g items[i] env' hd' with
        | none => rw [hg1] at p'; exact p'
        | some q1 =>
          obtain ⟨env1, h1⟩ := q1
          rw [hg1] at p'
          intro ρ3 H3 σ3 x3 s3 e3 l3
          refine ⟨ρ3, env1, h1, e3, s3, ?_⟩
          dsimp only at p'
          have p3 := p'.ext (y1.trans x3)
          have l3' : σ3.length = σ.length := l3.1.trans hl'
          cases hb1 : sa env1 h1 with
          | none => rw [hb1] at p3; exact p3.elim
          | some q2 =>
            obtain ⟨fl, e2, h2⟩ := q2
            rw [hb1] at p3
            have xx := x'.trans (y1.trans x3)
            cases fl with
            | nx => exact fun ρ4 H4 σ4 x4 s4 e4 l4 => ⟨l4.trans l3', ρ4, e2, h2, xx.trans x4, e4, s4, p3.ext x4⟩
            | ct => exact fun ρ4 H4 σ4 x4 s4 e4 l4 => ⟨l4.trans l3', ρ4, e2, h2, xx.trans x4, e4, s4, p3.ext x4⟩
            | bk => exact fun ρ4 H4 σ4 x4 s4 e4 l4 => p3 ρ4 H4 σ4 x4 s4 e4 (l4.trans l3')
            | ret d => exact fun ρ4 H4 σ4 x4 s4 e4 l4 => p3 ρ4 H4 σ4 x4 s4 e4 (l4.trans l3')
            | exc x => exact fun ρ4 H4 σ4 x4 s4 e4 l4 => p3 ρ4 H4 σ4 x4 s4 e4 (l4.trans l3')
      · have hie : i = items.length := by omega
        subst hie
        rw [List.drop_length] at p'
        exact .inl ⟨ir.stop ρ' H' x'.keeps, p' ρ' H' σ' Ext.refl sh' er' hl'⟩
theorem evs_for {sl : List Nat} {g : MG} {pos : Pos} (hp : PassesOwn (model X.prog X.w) X.A X.env X.xe) (hc : X.calm = true) (hi : PI X tg iter (tI C W mi)) (hg : PG X tg (tG C sl g)) (hb : PSs X body (tS C W sa)) (hs : ∀ x, foldedSetIterable iter X.env x = pure x) :
    PS X (.For tg iter body [] pos) (tS C W (sFor mi g sa)) :=
  weakS (ps_for hp hc hi hg hb hs) fun Z σ H h => go_for h
/-- y = [..], y a local name on the comprehension's line -/
theorem evs_setC {scope : Scope} {own : List (Str × Nat)} {m : Bool} {sl : List Nat} {g : MG} {mi : MI} {tt : TT} {cond : M Bool} {me : M D} {i : Nat} {y : Str} {py spos : Pos} (hc : X.calm = true) (hN : X.N.Nodup) (hsl : ∀ j ∈ sl, j ∈ own.map (·.2))
    (hy : X.N[i]? = some y) (hyl : X.env.scope.names.lookup y = some .local) (hsw : swapsWith (.ListComp elt [⟨tg, iter, ifs, 0⟩] scope pos) (some (.Name y py)) spos.line X.env = pure true)
    (hi : PI X tg iter (tI C W mi)) (ok : BlkOk X.N X.env.scope scope own)
    (hg : ∀ (s : Shared) (H : Hp) (Cc : Addr) (cl : List (Str × Addr)) (fp : List Addr), PG (X.blk s H scope (compEnvC scope cl Cc X.env) fp) tg (tG C sl g))
    (hts : ∀ (s : Shared) (H : Hp) (Cc : Addr) (cl : List (Str × Addr)) (fp : List Addr), PTs (X.blk s H scope (compEnvC scope cl Cc X.env) fp) ifs tt) (ht : ∀ σ H Q, tT C W0 cond σ H Q → tt σ H Q)
    (he : ∀ (s : Shared) (H : Hp) (Cc : Addr) (cl : List (Str × Addr)) (fp : List Addr), PE (X.blk s H scope (compEnvC scope cl Cc X.env) fp) elt (tE C W0 me)) (hs : ∀ x, foldedSetIterable iter X.env x = pure x) :
    PS X (.Assign [.Name y py] (.ListComp elt [⟨tg, iter, ifs, 0⟩] scope pos) spos) (tS C W (sAsg (mcomp m (own.map (·.2)) mi g cond me) (gname i))) :=
  weakS (ps_setLc hc hN hy hyl hsw hi ok hg hts he hs) fun Z σ H ⟨ρ, env, hd, er, sh, p⟩ =>
    comp_ok hc hN hsl ht (goE er sh p fun v H1 ρ1 hd1 d x er1 sh1 r1 p1 => p1 ρ1 H1 _ Ext.refl sh1 (er1.set i r1) (by simp))
end
end EV
namespace EV
open PySem PySem.Spec PyProof.Rows L2
/-- room for k calls, no repr under way -/
structure RoomG (k : Nat) (A : Around) : Prop where
  room : Room k A
  quiet : A.guards = some []
theorem RoomG.weak {j k : Nat} {A : Around} (r : RoomG k A) (h : j ≤ k) : RoomG j A := ⟨r.room.mono h, r.quiet⟩
theorem RoomG.inner {k : Nat} {A : Around} (r : RoomG (k + 1) A) (env : PySem.Env) : RoomG k (A.deeper env) := ⟨r.room.deeper env, r.quiet⟩
theorem RoomG.room64 {k : Nat} {A : Around} (r : RoomG k A) : A.units + 64 < cLine := by have := r.room.un; omega
def fRepr : OpN
  | [x], h => match x with
    | .tup _ | .lst _ | .ref _ | .dic _ _ => match toPyT h x with
      | some p => if p.showable = true ∧ p.shown.length ≤ sizeLine ∧ p.depth ≤ 60 then some (.v (.str p.shown)) else none
      | none => none
    | _ => none
  | _, _ => none
section
variable {X : Cx} {C : Ctx} {ρ : RhoT} {H : Hp} {hd : Hd}
theorem fn_repr (hK : X.K = C.K) (hg : X.A.guards = some []) (hu : X.A.units + 64 < cLine) : CallR X (.builtin "repr") (rON C fRepr) := by
  intro pins s σ H xs us Q I rx ⟨ρ, hd, ds, sh, rl, p⟩
  unfold fRepr at p
  split at p
  · rename_i x
    obtain ⟨v, rfl, r1⟩ := relL1 rl
    cases rx with
    | @cons _ u0 _ _ q1 q2 =>
      cases q2
      have key : ∀ {d : PyData}, toPyT hd x = some d → (∃ a, v = .ref a) → PostO C ρ H hd Q (if d.showable = true ∧ d.shown.length ≤ sizeLine ∧ d.depth ≤ 60 then some (.v (.str d.shown)) else none) → wpAny (model X.prog X.w) X.A (call (.builtin "repr") [u0]) (EP X pins σ Q) X.xe s := fun {d} e hv pp => by
        split at pp
        · rename_i hz
          obtain ⟨a, rfl⟩ := hv
          have rd := readsT_of hK I sh e r1 q1
          cases q1
          refine repr_rds (h₀ := s.heap) rd hz.1 hg (by omega) (fun _ _ z => z) (fun h' u tk hk => ?_) hz.2.1
          exact ⟨.str d.shown, H, I.kept hk, ⟨u, rfl⟩, pp.v sh (rel_str hz.2.1)⟩
        · exact pp.elim
      split at p
      all_goals first | exact p.elim | skip
      all_goals
        split at p
        · rename_i d e
          refine key e ?_ p
          first
            | (simp only [Rel] at r1; obtain ⟨a, _, rfl, _⟩ := r1; exact ⟨a, rfl⟩)
            | (simp only [Rel] at r1; obtain ⟨a, rfl, _⟩ := r1; exact ⟨a, rfl⟩)
        · exact p.elim
  · exact p.elim
end
structure FnG (P : Program) (w : World) (K : PySem.W.Frag) (mg : Str → Option Value) (base : Heap) (CX : CXT) (k : Nat) (f : Addr) (fd : FuncData) (ps : List Str) (sp : Sp) : Prop where
  many : ∀ vs H Q E, sp vs H Q E → vs.length = ps.length
  runs : ∀ (A : Around) (outer : List PySem.Env) (s : Shared) (H : Hp) (args : Args) (us : List Value) (vs : List V) (Q : VK) (E : XK), RoomG k A → Env0 P w K mg base A outer s H → BindsTo s fd args (ps.zip us) → Vals vs us → sp vs H Q E →
    codeAny (model P w) A (.call (.ref f) args) (CR CX outer P w H s Q E) s
theorem FnG.weak {P : Program} {w : World} {K : PySem.W.Frag} {mg : Str → Option Value} {base : Heap} {CX : CXT} {j k : Nat} {f : Addr} {fd : FuncData} {ps : List Str} {sp : Sp} (F : FnG P w K mg base CX j f fd ps sp) (h : j ≤ k) :
    FnG P w K mg base CX k f fd ps sp := ⟨F.many, fun A outer s H args us vs Q E hr => F.runs A outer s H args us vs Q E (hr.weak h)⟩
section
variable {X : Cx} {C : Ctx} {W : WX} {CX : CXT} {k n : Nat} {f : Addr} {fd : FuncData} {ps ks : List Str} {sp : Sp} {x : Str} {p pos : Pos} {e : Expr} {es : List Expr} {kws : List Keyword} {t tk : TA}
/-- how a call's end looks from the caller -/
theorem ends_of {pins : List (Addr × Obj)} {σ : L2.St} {H : Hp} {s : Shared} {Q : VK} {E : XK} (hx : PassesAt CX X σ E) (I : Inv X pins σ H s) {args : Args} (h : codeAny (model X.prog X.w) X.A (.call (.ref f) args) (CR CX X.stack X.prog X.w H s Q E) s) :
    codeAny (model X.prog X.w) X.A (.call (.ref f) args) (fun r s' => match r with | .ok (.ret v) => EP X pins σ Q v s' | .ok _ => False | .error e => X.xe e s') s := by
  refine codeAny_mono h fun r s' hq => ?_
  rcases r with e | (u | _ | _ | _)
  · exact hx pins H s e s' I hq
  all_goals first | exact I.after hq | exact False.elim hq
/-- the values of a call, the defaults behind them -/
def tCl (sp : Sp) (dvs : List V) (E : L2.St → XK) (t : TA) : TE := fun σ H Q => t σ H fun vs H1 => sp (vs ++ dvs) H1 Q (E σ)
theorem run_fnG {pins : List (Addr × Obj)} {σ : L2.St} {H : Hp} {s : Shared} {Q : VK} {E : XK} {us ds : List Value} {vs dvs : List V} (F : FnG X.prog X.w X.K X.mg X.base CX k f fd ps sp) (hr : RoomG k X.A) (hb : Binds X.K fd ps ds) (hd : Vals dvs ds) (hx : PassesAt CX X σ E)
    (I : Inv X pins σ H s) (r : Vals vs us) (h : sp (vs ++ dvs) H Q E) : wpAny (model X.prog X.w) X.A (call (.ref f) us) (EP X pins σ Q) X.xe s := by
  have rr := r.append hd
  have hl : (us ++ ds).length = ps.length := rr.length.symm.trans (F.many _ _ _ _ h)
  refine wpAny_call (codeAny_mono (ends_of (pins := pins) hx I (F.runs _ _ s H _ _ _ Q E hr I.env0 (hb s us I.kIn hl) rr h)) fun r s' q => ?_)
  rcases r with e | (u | _ | _ | _) <;> first | exact q | exact q.elim
theorem pe_callG {E : L2.St → XK} {dvs : List V} {ds : List Value} (F : FnG X.prog X.w X.K X.mg X.base CX k f fd ps sp) (hr : RoomG k X.A) (hg : Gl X x) (hm : X.mg x = some (.ref f)) (hk : PySem.W.keepIn X.K (.ref f) = true) (hb : Binds X.K fd ps ds) (hd : Vals dvs ds) (hx : ∀ σ, PassesAt CX X σ (E σ))
    (ha : PA X (e :: es) t) (hdb : (x == ("__debug__" : Str)) = false) (hs : noStars (e :: es) = true) : PE X (.Call (.Name x p) (e :: es) [] pos) (tCl sp dvs E t) := by
  have hs' : notStar e = true ∧ noStars es = true := by unfold noStars at hs; rwa [Bool.and_eq_true] at hs
  exact ⟨fun pins s σ H Q I h => wpAny_Call_Name_kw (ld_glob I hg hm (PySem.W.callWith_K (h₀ := X.base) I.ok.mod.kin hk (thn (ha.run pos pins s σ H _ I h) fun us s1 ⟨vs, H1, I1, r, q⟩ => ⟨I1.kIn, run_fnG F hr hb hd (hx σ) I1 r q⟩) (starEach_at hs'.1) (plain_of hs'.2)) hdb)⟩
end
section
variable {CX : CXT} {P : Program} {w : World} {K : PySem.W.Frag} {mg : Str → Option Value} {base : Heap} {k : Nat} {f : Addr} {x qual : Str} {params : Arguments} {body : List Stmt} {scope : Scope} {dvs : List V} {kws : List (Str × V)} {fd : FuncData} {N ps : List Str} {sp : Sp}
theorem fnG_of (F : FunD K x qual params body scope dvs kws f fd) (S : FnScope N ps scope) (many : ∀ vs H Q E, sp vs H Q E → vs.length = ps.length)
    (hbody : ∀ (cdv : Value) (A : Around) (outer : List PySem.Env) (s : Shared) (H : Hp) (vs : List V) (Q : VK) (E : XK), RoomG k (A.deeper (envOfC qual scope s.heap.objs.size f cdv)) → sp vs H Q E →
      ∃ t, PSs (cxOf CX P w K mg base N qual scope f cdv A outer s H E) body t ∧ t { nx := fun _ H' => Q .non H', rt := Q } (start N vs) H) : FnG P w K mg base CX (k + 1) f fd ps sp := by
  obtain ⟨oc, od, dV, kV, doc, pm, an, cdv, ct, osl, rfl, at_, code, -, -⟩ := F.ex
  constructor
  · exact many
  intro A outer s H args us vs Q E room e0 bound rv want
  have inK : K.In s.heap := e0.mod.kin.keeps fun b o e => (e0.bs b o e).1
  have noLim : s.heap.NoLimit := e0.mod.nolimit.keeps fun b o e => (e0.bs b o e).1
  have cell : ∀ {y : Str}, scope.names.lookup y = some .cell → ((cellsFrom (s.heap.objs.size + 1) scope.names []).lookup y).isSome = true := fun q => PySem.W.cellsFrom_some _ _ _ (.inl q)
  refine codeAny_call_function room.room.depth (inK _ _ at_) rfl S.co S.gen rfl (PySem.W.codeRec_of inK code) (bound _ _ _ _ ?_)
  refine wpAny_newFunctionEnv_cells S.kind (fun y hy => (S.par y.1 (List.of_mem_zip (show (y.1, y.2) ∈ _ from hy)).1).imp id fun q => ⟨q, cell q⟩) fun env he s1 made => ?_
  subst he
  refine ⟨noLim.keeps made.toInCall.keep, codeAny_func ?_⟩
  obtain ⟨t, does, goal⟩ := hbody cdv A outer s H vs Q E (room.inner _) want
  refine wpAny_mono (does.run [] s1 (start N vs) H _ (inv_start S room.room.hd e0 (many _ _ _ _ want) rv made) goal) (fun fl s' hs => ?_) fun e s' hs => hs
  have last : ∀ {σ' : L2.St} {H' : Hp} {v : V} {u : Value}, Inv (cxOf CX P w K mg base N qual scope f cdv A outer s H E) [] σ' H' s' → RelV v u → Q v H' → CE outer P w H s Q u s' :=
    fun {_ H' v _} J r q => ⟨v, H', J.os, J.bare, J.base, J.hok, r, q⟩
  rcases fl with u | _ | _ | _
  all_goals first
    | (obtain ⟨v, σ', H', J, r, q⟩ := hs; exact last J r q)
    | (obtain ⟨σ', H', J, q⟩ := hs; exact last (v := V.non) (u := Value.none) J rfl q)
    | (obtain ⟨_, _, _, q⟩ := hs; exact q.elim)
end
end EV
namespace EV
open PySem PySem.Spec PyProof.Rows L2
abbrev FunT := List D → Hd → Res D
def spM (C : Ctx) (n : Nat) (F : FunT) : Sp := fun vs H Q E => vs.length = n ∧ ∃ ρ hd ds, SimH C ρ H hd ∧ RelL C ρ H ds vs ∧ PostX C (Rel C) ρ H E Q (F ds hd)
def startE (n : Nat) (ds : List D) : Env := ds.map some ++ List.replicate (n - ds.length) none
/-- a def: its body, run at its parameters' values -/
def runB (n : Nat) (m : MS) : FunT := fun ds hd => match m (startE n ds) hd with
  | some (.nx, _, h) => .ok .non h
  | some (.ret d, _, h) => .ok d h
  | some (.exc x, _, h) => .exc x h
  | _ => .bad
/-- f(e, ..): n parameters, the last ones by their defaults -/
def mcall (F : FunT) (n : Nat) (dd : List D) (as : M (List D)) : M D := fun env h => (as env h).bind fun xs h1 => if (xs ++ dd).length = n then F (xs ++ dd) h1 else .bad
def mcallN (F : FunT) (n i j : Nat) (g : List D → List D → List D) (as ks : M (List D)) : M D := fun env h => (as env h).bind fun xs h1 => (ks env h1).bind fun zs h2 => if xs.length = i ∧ zs.length = j ∧ (g xs zs).length = n then F (g xs zs) h2 else .bad
section
variable {X : Cx} {C : Ctx} {W : WX} {CX : CXT} {k n i : Nat} {f : Addr} {fd : FuncData} {ps ks : List Str} {F : FunT} {x : Str} {p pos kpos : Pos} {e : Expr} {es : List Expr} {kws : List Keyword} {ms mk : M (List D)} {ma : M D} {dd : List D} {nm : Option Str}
theorem weakK {t t' : TA} (h : PK X kws t) (w : ∀ σ H Q, t' σ H Q → t σ H Q) : PK X kws t' := ⟨fun pos pins s σ H Q I q => h.run pos pins s σ H Q I (w σ H Q q)⟩
theorem evk_nil : PK X [] (tL C W mnil) := weakK pk_nil fun σ H Q ⟨ρ, env, hd, er, sh, p⟩ => p.here sh RelL.nil
theorem evk_cons (ha : PE X e (tE C W ma)) (hr : PK X kws (tL C W mk)) : PK X (⟨nm, e, kpos⟩ :: kws) (tL C W (mcons ma mk)) :=
  weakK (pk_cons ha hr) fun σ H Q ⟨ρ, env, hd, er, sh, p⟩ =>
    seqE er sh p fun v H1 ρ1 hd1 d x er1 sh1 r1 p1 => seqL er1 sh1 p1 fun vs H2 ρ2 hd2 ds x2 er2 sh2 r2 p2 => p2.here sh2 (RelL.cons (Rel.ext x2 _ _ r1) r2)
theorem ev_call {dvs : List V} {ds : List Value} (G : FnG X.prog X.w X.K X.mg X.base CX k f fd ps (spM C n F)) (hr : RoomG k X.A) (hg : Gl X x) (hm : X.mg x = some (.ref f)) (hk : PySem.W.keepIn X.K (.ref f) = true) (hb : Binds X.K fd ps ds) (hd : Vals dvs ds)
    (hdd : ∀ ρ H, RelL C ρ H dd dvs) (hx : ∀ σ, PassesAt CX X σ fun c d H => W c d σ H) (ha : PA X (e :: es) (tL C W ms)) (hdb : (x == ("__debug__" : Str)) = false) (hs : noStars (e :: es) = true) : PE X (.Call (.Name x p) (e :: es) [] pos) (tE C W (mcall F n dd ms)) :=
  weakE (pe_callG G hr hg hm hk hb hd hx ha hdb hs) fun σ H Q ⟨ρ, env, hd, er, sh, p⟩ => seqL er sh p fun vs H1 ρ1 hd1 ds x er1 sh1 r1 p1 => by
    split at p1
    · rename_i hl
      have rr := r1.append (hdd ρ1 H1)
      exact ⟨rr.length.symm.trans hl, ρ1, hd1, _, sh1, rr, p1⟩
    · exact p1.elim
end
theorem start_env {C : Ctx} {ρ : RhoT} {H : Hp} {N : List Str} {ds : List D} {vs : List V} (r : RelL C ρ H ds vs) : EnvRel C ρ H (startE N.length ds) (L2.start N vs) := by
  have hl := r.length
  refine ⟨?_, fun i d e => ?_⟩
  · unfold startE L2.start
    rw [List.length_append, List.length_append, List.length_map, List.length_map, List.length_replicate, List.length_replicate, hl]
  · unfold startE at e
    unfold L2.start
    by_cases hi : i < ds.length
    · rw [List.getElem?_append_left (by simpa using hi), List.getElem?_map] at e
      rw [List.getElem?_append_left (by simpa [← hl] using hi), List.getElem?_map]
      cases q : ds[i]? with
      | none => rw [q] at e; cases e
      | some d' =>
        rw [q] at e; cases e
        obtain ⟨v, e1, r1⟩ := r.get q
        exact ⟨v, by rw [e1]; rfl, r1⟩
    · rw [List.getElem?_append_right (by simpa using hi), List.getElem?_replicate] at e
      split at e <;> cases e
section
variable {C : Ctx} {CX : CXT} {P : Program} {w : World} {mg : Str → Option Value} {base : Heap} {k : Nat} {f : Addr} {x qual : Str} {params : Arguments} {body : List Stmt} {scope : Scope} {dvs : List V} {kws : List (Str × V)} {fd : FuncData} {N ps : List Str} {m : MS}
theorem fn_sound (F : FunD C.K x qual params body scope dvs kws f fd) (S : FnScope N ps scope)
    (hb : ∀ (cdv : Value) (A : Around) (outer : List PySem.Env) (s : Shared) (H : Hp) (E : XK), RoomG k (A.deeper (envOfC qual scope s.heap.objs.size f cdv)) →
      PSs (cxOf CX P w C.K mg base N qual scope f cdv A outer s H E) body (tS C (fun c d _ H => E c d H) m)) : FnG P w C.K mg base CX (k + 1) f fd ps (spM C ps.length (runB N.length m)) :=
  fnG_of F S (fun vs H Q E h => h.1) fun cdv A outer s H vs Q E room ⟨hl, ρ, hd, ds, sh, r, p⟩ => ⟨_, hb cdv A outer s H E room, ρ, _, hd, start_env r, sh, by
    unfold runB at p
    cases hm : m (startE N.length ds) hd with
    | none => rw [hm] at p; exact p
    | some q =>
      obtain ⟨fl, env', hd'⟩ := q
      rw [hm] at p
      cases fl with
      | nx => exact fun ρ' H' σ' x s e l => p ρ' H' .non x s rel_non
      | ret d => exact fun ρ' H' σ' x s e l v r => p ρ' H' v x s r
      | exc y => exact fun ρ' H' σ' x s e l dd r => p ρ' H' dd x s r
      | bk => exact p.elim
      | ct => exact p.elim⟩
end
section
variable {P : Program} {w : World} {K : PySem.W.Frag} {mg mb : Str → Option Value} {CX : CXT} {k : Nat} {fa a : Addr} {fd : FuncData} {x : Str} {sp : Sp} {s₁ : Shared} {vs : List Value} {ns : List Int}
/-- the heap that tracks the script alone, where the object is not the module's own -/
def scrH (K : PySem.W.Frag) (a : Addr) (o : Obj) (ns : List Int) : Hp := fun b => if b = a then (match K.lookup a with | some _ => none | none => some (.frz o (.lst (ns.map V.int)))) else none
theorem law_callG (KX : K.In s₁.heap) (hns : s₁.heap.Ns mainGlobals mg) (hb : s₁.heap.Ns builtinsNs mb) (hbb : ∀ x : Str, x ≠ "__name__" → mb x = bootBuiltins x) (hlim : s₁.heap.NoLimit) (hg : s₁.gens = #[])
    (ha : s₁.heap.get? a = some { cls := .type "list", data := .seq vs.toArray }) (hi : IntsAre vs ns) (hl : ns.length ≤ sizeLine) (hr : RoomG k callerA)
    (F : ∀ base : Heap, K.In base → base.Ns mainGlobals mg → FnG P w K mg base CX k fa fd [x] sp) (hbind : ∀ (s : Shared) (u : Value), BindsTo s fd ⟨[u], []⟩ [(x, u)])
    (hsp : ∀ H : Hp, SqL K H a (ns.map V.int) → sp [.ref a] H (fun v _ => v = .bl true) fun _ _ _ => False) (hCX : ∀ H e s', CX [] H s₁ (fun _ _ _ => False) e s' → False) :
    codeAny (model P w) callerA (.call (.ref fa) ⟨[.ref a], []⟩) (fun r s' => r = .ok (.ret (.bool true)) ∧ OldK s₁.heap s'.heap ∧ s'.os = s₁.os ∧ AllBare s'.gens) s₁ := by
  have values := vals_ints hi
  have size := hi.length
  let o : Obj := { cls := .type "list", data := .seq vs.toArray }
  let H := scrH K a o ns
  have cases_ : ∀ b u, H b = some u → b = a ∧ K.lookup a = none ∧ u = .frz o (.lst (ns.map V.int)) := fun b u e => by
    have e' : (if b = a then (match K.lookup a with | some _ => none | none => some (HO.frz o (.lst (ns.map V.int)))) else none) = some u := e
    split at e'
    · split at e'
      · cases e'
      · rename_i q
        cases e'
        exact ⟨by assumption, q, rfl⟩
    · cases e'
  have other : ∀ b ob es ep, s₁.heap.get? b = some ob → ob.data = .dict es ep → H b = none := fun b ob es ep e d => by
    cases q : H b with
    | none => rfl
    | some u =>
      obtain ⟨rfl, -, -⟩ := cases_ b u q
      rw [ha] at e; cases e; cases (show Data.seq vs.toArray _ = Data.dict es ep from d)
  have names : ∀ {b : Addr} {m : Str → Option Value}, s₁.heap.Ns b m → (hidT s₁.heap H).Ns b m := fun {b m} ⟨ob, es, ep, e, d, r⟩ => ⟨ob, es, ep, hidT_get e (other b ob es ep e d), d, r⟩
  have inK : K.In (hidT s₁.heap H) := fun b ob e => hidT_get (KX b ob e) (by
    cases q : H b with
    | none => rfl
    | some u =>
      obtain ⟨rfl, n, -⟩ := cases_ b u q
      rw [n] at e; cases e)
  have script : SqL K H a (ns.map V.int) := by
    cases q : K.lookup a with
    | none => exact .inl (.inr ⟨o, by show (if a = a then _ else _) = _; rw [if_pos rfl, q]⟩)
    | some ob =>
      have e := KX a ob q
      rw [ha] at e; cases e
      exact .inr ⟨_, vs.toArray, _, q, rfl, rfl, rfl, by rw [List.size_toArray, size]; exact hl, by simpa using values⟩
  have okH : HOk P w H s₁.heap := fun b u e => by
    obtain ⟨rfl, -, rfl⟩ := cases_ b u e
    exact ⟨ha, by rw [List.length_map]; exact hl, vs, _, values, ha⟩
  have room0 : Env0 P w K mg (hidT s₁.heap H) callerA [] s₁ H :=
    ⟨rfl, ⟨inK, names hns, ⟨mb, names hb, hbb⟩, hlim.imp fun mc h => ⟨names h.1, h.2⟩⟩, fun b ob e => of_hidT e, Nat.le_of_eq (hidT_size _ _), trivial, (fun b hb => nomatch hb), okH, .of_eq hg⟩
  refine codeAny_mono ((F _ inK (names hns)).runs callerA [] s₁ H _ [.ref a] [.ref a] _ _ hr room0 (hbind s₁ (.ref a)) (.cons rfl .nil) (hsp H script)) fun r s' h => ?_
  rcases r with e | fl
  · exact (hCX H e s' h).elim
  obtain ⟨u, rfl⟩ : ∃ u, fl = .ret u := by
    cases fl with
    | ret u => exact ⟨u, rfl⟩
    | _ => exact False.elim h
  obtain ⟨v, H', os, bare, un, hok', rv, rfl⟩ := h
  obtain rfl : u = Value.bool true := rv
  refine ⟨rfl, OldK.of_keep fun b ob e => ?_, os, bare⟩
  cases q : H b with
  | none => exact un.keep b ob e q (fun z => nomatch z) (fun z => nomatch z)
  | some u =>
    obtain ⟨rfl, -, rfl⟩ := cases_ b u q
    obtain ⟨e2, _⟩ := hok' b _ (un.frzs b _ _ q)
    rw [ha] at e; cases e
    exact e2
theorem walk_G {l : PySem.W.OpenLaw} {n : Nat} {q : Program} {loose : List Str} {XP : (Str → Option Value) → Heap → Prop} {YP : World → Heap → Prop} {d : DefRec} {K : Params → PySem.W.Frag} {CX : World → CXT} {F : World → FunT}
    (hn : l.most = some n) (hn2 : n ≤ sizeLine) (hdf : d.params.defaults = []) (hr : Room k callerA)
    (hY : ∀ (w : World) (h : Heap), YP w h → (K w.params).In h)
    (G : ∀ (w : World) (mg : Str → Option Value) (fa : Addr) (h : Heap), (K w.params).In h → h.Ns mainGlobals mg → mg d.name = some (.ref fa) →
      ∃ (fd : FuncData) (C : Ctx), (C.K = K w.params ∧ C.tab = []) ∧ (∀ (s : Shared) (u : Value), BindsTo s fd ⟨[u], []⟩ [(x, u)]) ∧
        ∀ base : Heap, (K w.params).In base → base.Ns mainGlobals mg → FnG l.prog w (K w.params) mg base (CX w) k fa fd [x] (spM C 1 (F w)))
    (hF : ∀ (w : World) (ns : List Int), ns.length ≤ n → ∃ h, F w [.scr ns] [] = .ok (.bl true) h)
    (hCX : ∀ (w : World) (H : Hp) (s : Shared) (e : Value) (s' : Shared), CX w [] H s (fun _ _ _ => False) e s' → False) :
    PySem.W.WalkO q loose XP YP l.row.toRowW d [] (fun f vs => PySem.call f vs) := by
  refine Att.attach_call hn hdf fun w s₀ s₁ mg mb fa o pm cd doc a vs ns Gr Y _ _ _ hmg hobj hints hlen hg => ?_
  obtain ⟨fd, C, ⟨hK, hT⟩, hb, hG⟩ := G w mg fa _ (hY w _ Y) Gr.T.g hmg
  refine law_callG (hY w _ Y) Gr.T.g Gr.T.b Gr.T.builtins Gr.T.nolimit hg hobj hints (Nat.le_trans hlen hn2) ⟨hr, rfl⟩ hG hb (fun H hS => ?_) fun H => hCX w H s₁
  obtain ⟨h, e⟩ := hF w ns hlen
  refine ⟨rfl, ⟨[], []⟩, [], [.scr ns], ⟨rfl, (fun m n a z => nomatch z), (fun n a z => nomatch z), (fun n o z => nomatch z), (fun a z => nomatch z), (fun a z => nomatch z), (fun n a z => nomatch z), (fun p hp => by rw [hT] at hp; cases hp)⟩, ?_, ?_⟩
  · refine RelL.cons ?_ RelL.nil
    simp only [Rel]
    refine ⟨a, rfl, ?_, Nat.le_trans hlen hn2⟩
    rcases hS with hS | hS
    · exact .inl ⟨hS, (fun n z => nomatch z), (fun z => nomatch z)⟩
    · exact .inr (hK ▸ hS)
  · rw [e]
    exact fun ρ' H' v x s r => of_bl r
end
end EV
namespace EV
open PySem PySem.Spec PyProof.Rows L2
theorem bb_len : bootBuiltins "len" = some (.builtin "len") := by rfl
theorem bb_all : bootBuiltins "all" = some (.builtin "all") := by rfl
theorem bb_sum : bootBuiltins "sum" = some (.builtin "sum") := by rfl
theorem bb_abs : bootBuiltins "abs" = some (.builtin "abs") := by rfl
theorem bb_max : bootBuiltins "max" = some (.builtin "max") := by rfl
theorem bb_min : bootBuiltins "min" = some (.builtin "min") := by rfl
theorem bb_divmod : bootBuiltins "divmod" = some (.builtin "divmod") := by rfl
theorem bb_repr : bootBuiltins "repr" = some (.builtin "repr") := by rfl
theorem ne_name {x y : Str} (h : (x == y) = false) : x ≠ y := beq_eq_false_iff_ne.mp h
def visB (sc : Scope) (x : Str) : Bool := match sc.names.lookup x with
  | some .local => true
  | some .cell => true
  | some .free => true
  | _ => false
/-- a name of the top and its value -/
structure GVal (C : Ctx) (mg : Str → Option Value) (x : Str) (d : D) : Prop where
  ex : ∃ (v : V) (u : Value), mg x = some u ∧ RelV v u ∧ ∀ ρ H, Rel C ρ H d v
/-- a def of the top: dd its defaults that fill up -/
structure CallOk (C : Ctx) (P : Program) (w : World) (mg : Str → Option Value) (base : Heap) (CX : CXT) (k : Nat) (x : Str) (n : Nat) (F : FunT) (dd : List D) : Prop where
  ex : ∃ (f : Addr) (fd : FuncData) (ps : List Str) (dvs : List V) (ds : List Value), mg x = some (.ref f) ∧ PySem.W.keepIn C.K (.ref f) = true ∧ FnG P w C.K mg base CX k f fd ps (spM C n F) ∧ Binds C.K fd ps ds ∧ Vals dvs ds ∧ ∀ ρ H, RelL C ρ H dd dvs
theorem passAt0 {X : Cx} {σ : L2.St} {E : XK} : PassesAt CX0 X σ E := fun _ _ _ _ _ _ h => h.elim
section
variable {X : Cx} {C : Ctx} {W : WX} {CX : CXT} {pos p q cpos apos : Pos} {x : Str} {a b e o : Expr} {es rest : List Expr} {ms mk : M (List D)} {ma mb mo : M D} {ta tb : M Bool} {d : D} {i k n j : Nat} {F : FunT} {dd : List D} {kws : List Keyword}
theorem ev_pv (hN : X.N[i]? = some x) (hv : visB X.env.scope x = true) (hd : (x == ("__debug__" : Str)) = false) (hc : (x == ("__classdict__" : Str)) = false) : PE X (.Name x pos) (tE C W (mvar i)) :=
  ev_var (pe_var hN (by
    unfold visB at hv
    unfold Vis
    split at hv
    · rename_i z; exact .inl z
    · rename_i z; exact .inr (.inl z)
    · rename_i z; exact .inr (.inr z)
    · cases hv) hd hc)
theorem ev_int {i : Int} {j : Nat} : PE X (.Constant (.int i) j pos) (tE C W (mc (.int i))) := ev_const pe_int fun _ _ => rel_int
theorem ev_bl {b : Bool} {j : Nat} : PE X (.Constant (.bool b) j pos) (tE C W (mc (.bl b))) := ev_const pe_bl fun _ _ => rel_bl
theorem ev_non {j : Nat} : PE X (.Constant .none j pos) (tE C W (mc .non)) := ev_const pe_non fun _ _ => rel_non
theorem ev_str {z : Str} {j : Nat} (h : decide (z.length ≤ 100000) = true) : PE X (.Constant (.str z) j pos) (tE C W (mc (.str z))) := ev_const pe_str fun _ _ => rel_str (by have := of_decide_eq_true h; rw [sizeLine_eq]; omega)
def mdic0 : M D := fun _ h => .ok (.dic [] []) h
theorem ev_dic0 : PE X (.Dict [] [] pos) (tE C W mdic0) := weakE pe_dnewK fun σ H Q ⟨ρ, env, hd, er, sh, p⟩ q hq => by
  refine p _ _ _ (Ext.upd_new hq) (sh.upd_new hq) ?_
  simp only [Rel]
  exact ⟨q, [], rfl, ⟨upd_same, sh.unm hq⟩, RelL.nil, rfl⟩
theorem ev_B {m : Bool} {id : String} {f : OpN} (hc : CallR X (.builtin id) (rON C f)) (hm : X.mg x = none) (hg : X.env.kindOf x = some .globalImplicit) (hv : bootBuiltins x = some (.builtin id)) (ha : PA X (e :: es) (tL C W ms))
    (hn : (x == ("__name__" : Str)) = false) (hd : (x == ("__debug__" : Str)) = false) (hs : noStars (e :: es) = true) : PE X (.Call (.Name x p) (e :: es) [] pos) (tE C W (mfun m f ms)) := ev_callB hc hg hm hv ha (ne_name hn) hd hs
theorem ev_user (hK : X.K = C.K) (c : CallOk C X.prog X.w X.mg X.base CX j x n F dd) (hr : RoomG k X.A) (hj : decide (j ≤ k) = true) (hg : X.env.kindOf x = some .globalImplicit) (hx : ∀ σ, PassesAt CX X σ fun c d H => W c d σ H) (ha : PA X (e :: es) (tL C W ms))
    (hd : (x == ("__debug__" : Str)) = false) (hs : noStars (e :: es) = true) : PE X (.Call (.Name x p) (e :: es) [] pos) (tE C W (mcall F n dd ms)) := by
  obtain ⟨f, fd, ps, dvs, ds, e1, e2, G, b, v, r⟩ := c.ex
  rw [← hK] at e2 G b
  exact ev_call G (hr.weak (of_decide_eq_true hj)) hg e1 e2 b v r hx ha hd hs
theorem ev_rng1 (hm : X.mg "range" = none) (hg : X.env.kindOf "range" = some .globalImplicit) (ha : PE X a (tE C W ma)) (hs : notStar a = true) {tg : Expr} : PI X tg (.Call (.Name "range" p) [a] [] q) (tI C W (irng irange1 (mcons ma mnil))) :=
  evi_range1 hg hm (evl_cons ha evl_nil hs) hs
theorem fn_ok {C : Ctx} {CX : CXT} {P : Program} {w : World} {mg : Str → Option Value} {base : Heap} {k : Nat} {f : Addr} {x qual : Str} {params : Arguments} {body : List Stmt} {scope : Scope} {dvs : List V} {kws : List (Str × V)} {fd : FuncData} {N ps : List Str} {m : MS} {nN nP : Nat} {F : FunT}
    (FD : FunD C.K x qual params body scope dvs kws f fd) (S : FnScope N ps scope) (hN : N.length = nN) (hP : ps.length = nP) (hF : F = runB nN m)
    (hb : ∀ (cdv : Value) (A : Around) (outer : List PySem.Env) (s : Shared) (H : Hp) (E : XK), RoomG k (A.deeper (envOfC qual scope s.heap.objs.size f cdv)) →
      PSs (cxOf CX P w C.K mg base N qual scope f cdv A outer s H E) body (tS C (fun c d _ H => E c d H) m)) : FnG P w C.K mg base CX (k + 1) f fd ps (spM C nP F) := by
  subst hN; subst hP; subst hF
  exact fn_sound FD S hb
theorem yes_t (σ : L2.St) (H : Hp) (Q : Bool → Hp → Prop) (h : tT C W0 yes σ H Q) : tYes σ H Q := by
  obtain ⟨ρ, env, hd, er, sh, p⟩ := h
  exact p.here sh rfl
/-- a local name (k: it is a cell, in the def's own frame) -/
def locB (sc : Scope) (x : Str) : Bool := match sc.names.lookup x with
  | some .local => true
  | _ => false
theorem evg_n {y : Str} (hN : X.N.Nodup) (hi : X.N[i]? = some y) (hl : locB X.env.scope y = true) : PG X (.Name y pos) (tG C [i] (gname i)) := by
  have h : X.env.scope.names.lookup y = some .local := by
    unfold locB at hl
    split at hl
    · assumption
    · cases hl
  exact evg_name (pg_name hN hi (.inl h) (.inr h))
theorem own_cx {CX : CXT} {P : Program} {w : World} {K : PySem.W.Frag} {mg : Str → Option Value} {base : Heap} {N : List Str} {qual : Str} {scope : Scope} {f : Addr} {cd : Value} {A : Around} {outer : List PySem.Env} {s : Shared} {H : Hp} {E : XK} :
    PassesOwn (model P w) (cxOf CX P w K mg base N qual scope f cd A outer s H E).A (cxOf CX P w K mg base N qual scope f cd A outer s H E).env (cxOf CX P w K mg base N qual scope f cd A outer s H E).xe :=
  passes_of (X := cxOf CX P w K mg base N qual scope f cd A outer s H E) (K := fun e s'' => CX outer H s E e s'') rfl
end
end EV
namespace EV
open PySem PySem.Spec PyProof.Rows L2
section
variable {P : Program} {w : World} {K : PySem.W.Frag} {mg : Str → Option Value} {base : Heap} {x : Str} {st : Stmt} {f T E Dk : Addr} {oc dc pm cd ct kV : Value} {od an : Option Addr} {osl : Array (Option Value)} {C : Ctx} {fd : FuncData} {CX : CXT} {k n : Nat} {F : FunT} {ps : List Str}
theorem fund0 (l : K.lookup f = some ⟨oc, od, .func (PySem.W.fnOf x x (defArgs st) (defBody st) (defScope st) .none kV dc pm an cd ct), osl⟩) (c : PySem.W.codeIn K cd x = true) (k : PySem.W.keepIn K (.ref f) = true) :
    FunD K x x (defArgs st) (defBody st) (defScope st) [] [] f (PySem.W.fnOf x x (defArgs st) (defBody st) (defScope st) .none kV dc pm an cd ct) :=
  ⟨⟨oc, od, .none, kV, dc, pm, an, cd, ct, osl, rfl, l, c, .inl ⟨rfl, rfl⟩, .inl rfl⟩, k⟩
theorem callOk0 {qual : Str} {params : Arguments} {body : List Stmt} {scope : Scope} {dvs : List V} {kws : List (Str × V)} (FD : FunD C.K x qual params body scope dvs kws f fd) (hm : mg x = some (.ref f)) (G : FnG P w C.K mg base CX k f fd ps (spM C n F)) (b : Binds C.K fd ps []) : CallOk C P w mg base CX k x n F [] :=
  ⟨f, fd, ps, [], [], hm, FD.kp, G, b, .nil, fun _ _ => RelL.nil⟩
end
end EV
namespace EV
open PySem PySem.Spec PyProof.Rows L2
def dicOf (d : D) (h : Hd) : Option (List Key × List D) := match d with
  | .dic ks xs => some (ks, xs)
  | .ref n => match h[n]? with
    | some (.dic ks xs) => some (ks, xs)
    | _ => none
  | _ => none
def keyOf : D → Option Key
  | .int i => some (.inl i)
  | .str s => some (.inr s)
  | _ => none
def valD : List Key → List D → Key → Option D
  | k :: ks, x :: xs, q => if k = q then some x else valD ks xs q
  | _, _, _ => none
section
variable {X : Cx} {C : Ctx} {W : WX} {ρ : RhoT} {H : Hp} {hd : Hd} {σ : L2.St} {apos cpos pos : Pos} {o e f i : Expr} {mo me mf : M D}
theorem key_of {d : D} {v : V} {k : Key} (r : Rel C ρ H d v) (e : keyOf d = some k) : v = kV k := by
  cases d with
  | int i => cases e; exact of_int r
  | str s => cases e; exact (of_str r).1
  | _ => cases e
/-- d.get(k, x) -/
def mget2 (o e f : M D) : M D := fun env h => (o env h).bind fun d h1 => match dicOf d h1 with
  | none => .bad
  | some _ => (e env h1).bind fun k h2 => (f env h2).bind fun x h3 => match dicOf d h3, keyOf k with
    | some (ks, xs), some q => .ok ((valD ks xs q).getD x) h3
    | _, _ => .bad
/-- d[k], d a dict or a sequence -/
def mixd (o e : M D) : M D := fun env h => (o env h).bind fun d h1 => (e env h1).bind fun k h2 => match dicOf d h2, keyOf k with
  | some (ks, xs), some q => (match valD ks xs q with | some x => .ok x h2 | none => .bad)
  | _, _ => fin false (oIx d k h2) h2
/-- x, y = a, b -/
def sPar2 (i j : Nat) (as : M (List D)) : MS := fun env h => match as env h with
  | .ok [v, w] h1 => some (.nx, (env.set i (some v)).set j (some w), h1)
  | .exc x h1 => some (.exc x, env, h1)
  | _ => none
def sPar3 (i j l : Nat) (as : M (List D)) : MS := fun env h => match as env h with
  | .ok [v, w, u] h1 => some (.nx, ((env.set i (some v)).set j (some w)).set l (some u), h1)
  | .exc x h1 => some (.exc x, env, h1)
  | _ => none
theorem evs_par2 {j i : Nat} {x y : Str} {a b : Expr} {ms : M (List D)} {px py pt : Pos} {kt k2 : Nat} {pt2 : Pos} (hc : X.calm = true) (hN : X.N.Nodup) (hi : X.N[i]? = some x) (hj : X.N[j]? = some y) (hij : i ≠ j)
    (hx : X.env.scope.names.lookup x = some .local) (hy : X.env.scope.names.lookup y = some .local) (ha : PA X [a, b] (tL C W ms)) (hw : swappedStores [.Tuple [.Name x px, .Name y py] kt pt] (.Tuple [a, b] k2 pt2) X.env = pure (some [x, y])) 
    (hs : swapsWithSole [.Tuple [.Name x px, .Name y py] kt pt] (.Tuple [a, b] k2 pt2) pos.line X.env = pure false) :
    PS X (.Assign [.Tuple [.Name x px, .Name y py] kt pt] (.Tuple [a, b] k2 pt2) pos) (tS C W (sPar2 i j ms)) :=
  weakS (ps_par hc hN hi hj hij hx hy ha hw hs) fun Z σ H ⟨ρ, env, hd, er, sh, p⟩ => by
    refine ⟨ρ, env, hd, er, sh, ?_⟩
    unfold sPar2 at p
    cases hm : ms env hd with
    | bad => rw [hm] at p; exact p.elim
    | exc x h => rw [hm] at p; exact fun ρ1 H1 dd y s r => p ρ1 H1 σ y s (er.ext y) rfl dd r
    | ok ds h =>
      rw [hm] at p
      split at p
      · rename_i v w h1 e
        cases e
        intro ρ1 H1 vs x1 s1 r
        obtain ⟨v', w', rfl, r1, r2⟩ := relL2 r
        exact ⟨v', w', rfl, p ρ1 H1 _ x1 s1 (((er.ext x1).set i r1).set j r2) (by simp)⟩
      · rename_i e; cases e
      · exact p.elim
end
end EV
namespace EV
open PySem PySem.Spec PyProof.Rows L2
section
variable {env : Env} {h : Hd} {a b c o : M D} {ms mk : M (List D)} {ta tb : M Bool} {m : Bool} {d : D} {i : Nat} {xs : List D}
@[simp] theorem mc_at : mc d env h = .ok d h := rfl
@[simp] theorem mvar_at (i : Nat) : mvar i env h = (match env[i]? with | some (some d) => .ok d h | _ => .bad) := rfl
@[simp] theorem mnil_at : mnil env h = .ok [] h := rfl
@[simp] theorem mcons_at : mcons a ms env h = (a env h).bind fun x h1 => (ms env h1).bind fun xs h2 => .ok (x :: xs) h2 := rfl
@[simp] theorem mop1_at (f : Op1) : mop1 m f a env h = (a env h).bind fun x h1 => fin m (f x h1) h1 := rfl
@[simp] theorem mop2_at (f : Op2) : mop2 m f a b env h = (a env h).bind fun x h1 => (b env h1).bind fun y h2 => fin m (f x y h2) h2 := rfl
@[simp] theorem mtup_at : mtup ms env h = (ms env h).bind fun xs h1 => if xs.length ≤ sizeLine then .ok (.tup xs) h1 else .bad := rfl
@[simp] theorem mlst_at : mlst m ms env h = (ms env h).bind fun xs h1 => fin m (if xs.length ≤ sizeLine then some (.new xs) else none) h1 := rfl
@[simp] theorem mfun_at (f : OpN) : mfun m f ms env h = (ms env h).bind fun xs h1 => fin m (f xs h1) h1 := rfl
@[simp] theorem mand_at : mand a b env h = (a env h).bind fun x h1 => match truth x h1 with | some true => b env h1 | some false => .ok x h1 | none => .bad := rfl
@[simp] theorem mor_at : mor a b env h = (a env h).bind fun x h1 => match truth x h1 with | some true => .ok x h1 | some false => b env h1 | none => .bad := rfl
@[simp] theorem mnot_at : mnot a env h = (a env h).bind fun x h1 => match truth x h1 with | some k => .ok (.bl !k) h1 | none => .bad := rfl
@[simp] theorem mandT_at : mandT ta tb env h = (ta env h).bind fun c h1 => if c then tb env h1 else .ok false h1 := rfl
@[simp] theorem morT_at : morT ta tb env h = (ta env h).bind fun c h1 => if c then .ok true h1 else tb env h1 := rfl
@[simp] theorem mnotT_at : mnotT ta env h = (ta env h).bind fun c h1 => .ok (!c) h1 := rfl
@[simp] theorem mtru_at : mtru a env h = (a env h).bind fun x h1 => match truth x h1 with | some k => .ok k h1 | none => .bad := rfl
@[simp] theorem mbl_at : mbl a env h = (a env h).bind fun x h1 => match x with | .bl k => .ok k h1 | _ => .bad := rfl
@[simp] theorem mite_at : mite ta a b env h = (ta env h).bind fun k h1 => if k then a env h1 else b env h1 := rfl
@[simp] theorem mchain_at (f g : Op2) : mchain f g a b c env h = (a env h).bind fun x h1 => (b env h1).bind fun y h2 => match f x y h2 with
  | some (.v (.bl true)) => (c env h2).bind fun z h3 => fin false (g y z h3) h3
  | some (.v (.bl false)) => .ok (.bl false) h2
  | _ => .bad := rfl
@[simp] theorem mcall_at (F : FunT) (n : Nat) (dd : List D) : mcall F n dd ms env h = (ms env h).bind fun xs h1 => if (xs ++ dd).length = n then F (xs ++ dd) h1 else .bad := rfl
@[simp] theorem mcallN_at (F : FunT) (n i j : Nat) (g : List D → List D → List D) : mcallN F n i j g ms mk env h = (ms env h).bind fun xs h1 => (mk env h1).bind fun zs h2 => if xs.length = i ∧ zs.length = j ∧ (g xs zs).length = n then F (g xs zs) h2 else .bad := rfl
@[simp] theorem mmeth_at (g : D → Hd → Bool) (f : OpM) : mmeth g f o ms env h = (o env h).bind fun x h1 => if g x h1 then (ms env h1).bind fun xs h2 => resM (f x xs h2) else .bad := rfl
@[simp] theorem msl_at (lo hi : M (Option Int)) : msl m a lo hi env h = (a env h).bind fun x h1 => (lo env h1).bind fun l h2 => (hi env h2).bind fun u h3 => fin m (oSl x l u h3) h3 := rfl
@[simp] theorem mpart0 : mpart none env h = .ok none h := rfl
@[simp] theorem mpart1 : mpart (some a) env h = (a env h).bind fun x h1 => match x with | .int i => .ok (some i) h1 | _ => .bad := rfl
@[simp] theorem mdic0_at : mdic0 env h = .ok (.dic [] []) h := rfl
@[simp] theorem iseq_at : iseq a env h = (a env h).bind fun x h1 => match itemsOf x with | some xs => .ok xs h1 | none => .bad := rfl
@[simp] theorem irng_at (f : List D → Option (List D)) : irng f ms env h = (ms env h).bind fun xs h1 => match f xs with | some ys => .ok ys h1 | _ => .bad := rfl
@[simp] theorem mcomp_at (own : List Nat) (it : MI) (g : MG) (cond : M Bool) (elt : M D) : mcomp m own it g cond elt env h = (it env h).bind fun items h1 =>
  match compLoop g cond elt (wipeE env own) items [] h1 with
  | some (acc, h2) => fin m (some (.new acc)) h2
  | none => .bad := rfl
@[simp] theorem fin_none : fin m none h = .bad := rfl
@[simp] theorem fin_v : fin m (some (.v d)) h = .ok d h := rfl
@[simp] theorem fin_newF : fin false (some (.new xs)) h = .ok (.lst xs) h := rfl
@[simp] theorem fin_newT : fin true (some (.new xs)) h = .ok (.ref h.length) (h ++ [.lst xs]) := rfl
@[simp] theorem resM_some (h' : Hd) : resM (some (d, h')) = .ok d h' := rfl
@[simp] theorem resM_none : resM none = .bad := rfl
@[simp] theorem isLst_ref (n : Nat) : isLst (.ref n) h = (lstOf (.ref n) h).isSome := rfl
@[simp] theorem lstOf_ref (n : Nat) : lstOf (.ref n) h = (match h[n]? with | some (.lst xs) => some xs | _ => none) := rfl
@[simp] theorem lstOf_lst : lstOf (.lst xs) h = some xs := rfl
@[simp] theorem seqOf_tup : seqOf (.tup xs) h = some xs := rfl
@[simp] theorem seqOf_lst : seqOf (.lst xs) h = some xs := rfl
@[simp] theorem seqOf_ref (n : Nat) : seqOf (.ref n) h = lstOf (.ref n) h := rfl
@[simp] theorem seqOf_scr (ns : List Int) : seqOf (.scr ns) h = some (ns.map .int) := rfl
@[simp] theorem truth_bl (k : Bool) : truth (.bl k) h = some k := rfl
@[simp] theorem ofE_at (k : D → MS) : ofE a k env h = (match a env h with | .ok d h1 => k d env h1 | .exc x h1 => some (.exc x, env, h1) | .bad => none) := rfl
@[simp] theorem ofT_at (k : Bool → MS) : ofT ta k env h = (match ta env h with | .ok d h1 => k d env h1 | .exc x h1 => some (.exc x, env, h1) | .bad => none) := rfl
@[simp] theorem sPass_at : sPass env h = some (.nx, env, h) := rfl
@[simp] theorem sExpr_at : sExpr a env h = (match a env h with | .ok _ h1 => some (.nx, env, h1) | .exc x h1 => some (.exc x, env, h1) | .bad => none) := rfl
@[simp] theorem sRet_at : sRet a env h = (match a env h with | .ok d h1 => some (.ret d, env, h1) | .exc x h1 => some (.exc x, env, h1) | .bad => none) := rfl
@[simp] theorem sRetN_at : sRetN env h = some (.ret .non, env, h) := rfl
@[simp] theorem sAsg_at (g : MG) : sAsg a g env h = (match a env h with
  | .ok d h1 => (match g d env h1 with | some (env', h') => some (.nx, env', h') | none => none)
  | .exc x h1 => some (.exc x, env, h1)
  | .bad => none) := rfl
@[simp] theorem sIf_at (s t : MS) : sIf ta s t env h = (match ta env h with | .ok k h1 => if k then s env h1 else t env h1 | .exc x h1 => some (.exc x, env, h1) | .bad => none) := rfl
@[simp] theorem sSeq_at (s t : MS) : sSeq s t env h = (match s env h with | some (.nx, env', h') => t env' h' | r => r) := rfl
@[simp] theorem sFor_at (it : MI) (g : MG) (body : MS) : sFor it g body env h = (match it env h with | .ok items h1 => forLoop g body items env h1 | .exc x h1 => some (.exc x, env, h1) | .bad => none) := rfl
@[simp] theorem forLoop_nil (g : MG) (body : MS) : forLoop g body [] env h = some (.nx, env, h) := rfl
@[simp] theorem forLoop_cons (g : MG) (body : MS) : forLoop g body (d :: xs) env h = (match g d env h with
    | none => none
    | some (env1, h1) => match body env1 h1 with
      | some (.nx, e2, h2) => forLoop g body xs e2 h2
      | some (.ct, e2, h2) => forLoop g body xs e2 h2
      | some (.bk, e2, h2) => some (.nx, e2, h2)
      | r => r) := rfl
@[simp] theorem gname_at (i : Nat) : gname i d env h = some (env.set i (some d), h) := rfl
@[simp] theorem gtup_at (gs : List MG) : gtup gs (.tup xs) env h = if xs.length = gs.length then gtup.go gs xs env h else none := rfl
@[simp] theorem gtup_lst (gs : List MG) : gtup gs (.lst xs) env h = if xs.length = gs.length then gtup.go gs xs env h else none := rfl
@[simp] theorem go_nil (ds : List D) : gtup.go [] ds env h = some (env, h) := by unfold gtup.go; rfl
@[simp] theorem go_cons (g : MG) (gs : List MG) (ds : List D) : gtup.go (g :: gs) (d :: ds) env h = (match g d env h with | some (env', h') => gtup.go gs ds env' h' | none => none) := by
  rw [gtup.go]
  try (cases g d env h <;> rfl)
@[simp] theorem gstar_at (gs : List MG) : gstar gs (.tup xs) env h = if gs.length ≤ xs.length + 1 ∧ 0 < gs.length then gtup.go gs (xs.take (gs.length - 1) ++ [.lst (xs.drop (gs.length - 1))]) env h else none := rfl
@[simp] theorem gsub_at (mo mi : M D) : gsub mo mi d env h = (match mo env h with
  | .ok (.ref n) h1 => match mi env h1 with
    | .ok (.int k) h2 => match h2[n]? with
      | some (.lst xs) => if 0 ≤ k ∧ k < xs.length then some (env, h2.set n (.lst (xs.set k.toNat d))) else none
      | _ => none
    | _ => none
  | _ => none) := rfl
@[simp] theorem runB_at (n : Nat) (s : MS) (ds : List D) : runB n s ds h = (match s (startE n ds) h with
  | some (.nx, _, h) => .ok .non h
  | some (.ret d, _, h) => .ok d h
  | some (.exc x, _, h) => .exc x h
  | _ => .bad) := rfl
@[simp] theorem startE_at (n : Nat) (ds : List D) : startE n ds = ds.map some ++ List.replicate (n - ds.length) none := rfl
@[simp] theorem wipeE_nil : wipeE env [] = env := rfl
@[simp] theorem wipeE_cons (v : Nat) (vs : List Nat) : wipeE env (v :: vs) = (wipeE env vs).set v none := rfl
@[simp] theorem isi_at (t : Ty) : fIsi [d, .ty t] h = (tyOf d h).map fun n => .v (.bl (isSub n t)) := rfl
@[simp] theorem len_at : fLen [d] h = (lenOf d h).map fun n => .v (.int (n : Nat)) := by
  show Option.map (fun n => OV.v (D.int n)) (do let a ← lenOf d h; pure (a : Int)) = _
  cases lenOf d h <;> rfl
@[simp] theorem all_lst : fAll [.lst xs] h = (blsOf xs).map fun bs => .v (.bl (bs.all id)) := rfl
@[simp] theorem tuple_lst : fTuple [.lst xs] h = some (.v (.tup xs)) := rfl
@[simp] theorem tuple_tup : fTuple [.tup xs] h = some (.v (.tup xs)) := rfl
@[simp] theorem tuple_scr (ns : List Int) : fTuple [.scr ns] h = some (.v (.tup (ns.map .int))) := rfl
@[simp] theorem tuple_ref (n : Nat) : fTuple [.ref n] h = (seqOf (.ref n) h).map fun xs => .v (.tup xs) := rfl
@[simp] theorem list_at : fList [d] h = (seqOf d h).map .new := rfl
@[simp] theorem isN_eq (x y : D) : oEq x y h = (eqv x y h).map fun b => .v (.bl b) := rfl
@[simp] theorem isN_ne (x y : D) : oNe x y h = (eqv x y h).map fun b => .v (.bl !b) := rfl
@[simp] theorem isN_in (x y : D) : oIn x y h = (isIn x y h).map fun b => .v (.bl b) := rfl
@[simp] theorem isN_notIn (x y : D) : oNotIn x y h = (isIn x y h).map fun b => .v (.bl !b) := rfl
@[simp] theorem cmp_int (p : Int → Int → Bool) (i j : Int) : oCmp p (.int i) (.int j) h = some (.v (.bl (p i j))) := rfl
@[simp] theorem add_int (i j : Int) : oAdd (.int i) (.int j) h = some (.v (.int (i + j))) := rfl
@[simp] theorem sub_int (i j : Int) : oSub (.int i) (.int j) h = some (.v (.int (i - j))) := rfl
@[simp] theorem mod_int (i j : Int) : oMod (.int i) (.int j) h = if 0 < j then some (.v (.int (i % j))) else none := rfl
@[simp] theorem fdiv_int (i j : Int) : oFdiv (.int i) (.int j) h = if 0 < j ∧ j < 1073741824 then some (.v (.int (i / j))) else none := rfl
@[simp] theorem mul_int (i j : Int) : oMul (.int i) (.int j) h = if (-(2 ^ 64) < i ∧ i < 2 ^ 64) ∨ (-(2 ^ 64) < j ∧ j < 2 ^ 64) then some (.v (.int (i * j))) else none := rfl
@[simp] theorem mul_lst (a : List D) (k : Int) : oMul (.lst a) (.int k) h = if -(2 ^ 63) ≤ k ∧ k < 2 ^ 63 ∧ a.length * k.toNat ≤ sizeLine then some (.new (List.replicate k.toNat a).flatten) else none := rfl
@[simp] theorem add_lst (a b : List D) : oAdd (.lst a) (.lst b) h = if a.length + b.length ≤ sizeLine then some (.new (a ++ b)) else none := rfl
@[simp] theorem add_refL (n : Nat) (b : List D) : oAdd (.ref n) (.lst b) h = (match lstOf (.ref n) h with
  | some a => if a.length + b.length ≤ sizeLine then some (.new (a ++ b)) else none
  | none => none) := by
  show (match lstOf (.ref n) h, lstOf (.lst b) h with
    | some a, some b => if a.length + b.length ≤ sizeLine then some (OV.new (a ++ b)) else none
    | _, _ => none) = _
  cases lstOf (.ref n) h <;> rfl
@[simp] theorem app_at (n : Nat) (y : D) : fAppend (.ref n) [y] h = (match h[n]? with
  | some (.lst xs) => if xs.length < sizeLine then some (.non, h.set n (.lst (xs ++ [y]))) else none
  | _ => none) := rfl
@[simp] theorem join_at (a : Str) : fJoin (.str a) [d] h = (match seqOf d h with
  | some ys => match strsOf ys with
    | some zs => if (zs.map (·.length)).sum + zs.length * a.length ≤ 16777216 then some (.str (Str.join a zs), h) else none
    | none => none
  | none => none) := rfl
@[simp] theorem isStr_str (z : Str) : isStr (.str z) h = true := rfl
@[simp] theorem add_tup (a b : List D) : oAdd (.tup a) (.tup b) h = if a.length + b.length ≤ sizeLine then some (.v (.tup (a ++ b))) else none := rfl
@[simp] theorem add_str (a b : Str) : oAdd (.str a) (.str b) h = if a.length + b.length ≤ sizeLine then some (.v (.str (a ++ b))) else none := rfl
@[simp] theorem int_bl (b : Bool) : fInt [.bl b] h = some (.v (.int (if b then 1 else 0))) := rfl
@[simp] theorem int_int (i : Int) : fInt [.int i] h = some (.v (.int i)) := rfl
@[simp] theorem sl_tup (lo hi : Option Int) : oSl (.tup xs) lo hi h = some (.v (.tup (cutD xs lo hi))) := rfl
@[simp] theorem sl_lst (lo hi : Option Int) : oSl (.lst xs) lo hi h = some (.new (cutD xs lo hi)) := rfl
@[simp] theorem sl_str (s : Str) (lo hi : Option Int) : oSl (.str s) lo hi h = some (.v (.str (cutS s lo hi))) := rfl
@[simp] theorem pow_int (i j : Int) : oPow (.int i) (.int j) h = if 0 ≤ j ∧ j ≤ 1000000 ∧ i.natAbs < 2 ^ 64 then some (.v (.int (i ^ j.toNat))) else none := rfl
@[simp] theorem neg_int (i : Int) : oNeg (.int i) h = some (.v (.int (-i))) := rfl
@[simp] theorem ix_tup (i : Int) : oIx (.tup xs) (.int i) h = (atI xs i).map .v := rfl
@[simp] theorem ix_lst (i : Int) : oIx (.lst xs) (.int i) h = (atI xs i).map .v := rfl
@[simp] theorem ix_ref (n : Nat) (i : Int) : oIx (.ref n) (.int i) h = (match lstOf (.ref n) h with | some xs => (atI xs i).map .v | none => none) := rfl
@[simp] theorem ix_scr (ns : List Int) (i : Int) : oIx (.scr ns) (.int i) h = (atI (ns.map D.int) i).map .v := rfl
end
theorem len_le {n : Nat} (h : n ≤ 1000) : n ≤ sizeLine := by rw [sizeLine_eq]; omega
end EV
namespace EV
open PySem PySem.Spec PyProof.Rows L2
theorem at0 {α : Type} {x : α} {xs : List α} : atI (x :: xs) 0 = some x := by
  unfold atI ixN
  simp
theorem at1 {α : Type} {x y : α} {xs : List α} : atI (x :: y :: xs) 1 = some y := by
  unfold atI ixN
  rw [if_pos (by decide), if_pos (by simp only [List.length_cons]; omega)]
  rfl
theorem at_in {α : Type} {xs : List α} {i : Int} (h0 : 0 ≤ i) (h1 : i < xs.length) : ∃ y, atI xs i = some y ∧ y ∈ xs := by
  unfold atI ixN
  rw [if_pos h0, if_pos h1]
  have hj : i.toNat < xs.length := by omega
  exact ⟨xs[i.toNat], by simp [hj], List.getElem_mem hj⟩
/-- the draws' state stands at n -/
def RngAt (h : Hd) (n : Nat) : Prop := ∃ a b : Int, h[n]? = some (.lst [.int a, .int b]) ∧ 0 ≤ a
/-- draws: nothing else changes -/
structure Stp (n : Nat) (h h' : Hd) : Prop where
  rng : RngAt h' n
  len : h.length ≤ h'.length
  same : ∀ j : Nat, j < h.length → j ≠ n → h'[j]? = h[j]?
theorem Stp.trans {n : Nat} {h h' h'' : Hd} (x : Stp n h h') (y : Stp n h' h'') : Stp n h h'' :=
  ⟨y.rng, Nat.le_trans x.len y.len, fun j hj hn => (y.same j (Nat.lt_of_lt_of_le hj x.len) hn).trans (x.same j hj hn)⟩
theorem RngAt.lt {h : Hd} {n : Nat} (r : RngAt h n) : n < h.length := by
  obtain ⟨a, b, e, _⟩ := r
  exact (List.getElem?_eq_some_iff.mp e).1
theorem Stp.set {n : Nat} {h : Hd} (hn : n < h.length) {a b : Int} (ha : 0 ≤ a) : Stp n h (h.set n (.lst [.int a, .int b])) :=
  ⟨⟨a, b, List.getElem?_set_self hn, ha⟩, by simp, fun j _ hj => List.getElem?_set_ne (Ne.symm hj)⟩
theorem Stp.push {n : Nat} {h : Hd} (r : RngAt h n) (o : MO) : Stp n h (h ++ [o]) := by
  obtain ⟨a, b, e, ha⟩ := r
  have hn := (List.getElem?_eq_some_iff.mp e).1
  exact ⟨⟨a, b, by rw [List.getElem?_append_left hn]; exact e, ha⟩, by simp, fun j hj _ => List.getElem?_append_left hj⟩
theorem range_ok {n : Nat} (h : n < 1000000) : irange1 [.int (n : Int)] = some ((List.range n).map fun k : Nat => D.int (k : Int)) := by
  show (if _ then _ else _) = _
  rw [if_pos (by omega), Int.toNat_natCast]
/-- data that nobody changes -/
def Fz (v : D) : Prop := ∃ p, toPy v = some p
theorem Fz.ty {v : D} (z : Fz v) : ∃ t, ∀ h, tyOf v h = some t := by
  obtain ⟨p, e⟩ := z
  cases v <;> first | exact ⟨_, fun _ => rfl⟩ | (simp only [toPy] at e; cases e)
theorem fz_all : ∀ {xs : List D} {ps : List PyData}, toPyL xs = some ps → ∀ x ∈ xs, Fz x
  | [], _, _, x, hx => nomatch hx
  | d :: ds, ps, e, x, hx => by
    simp only [toPyL] at e
    split at e
    · cases e
    · rename_i p e1
      split at e
      · cases e
      · rename_i qs e2
        rcases List.mem_cons.mp hx with rfl | hx
        · exact ⟨p, e1⟩
        · exact fz_all e2 x hx
theorem Fz.tup {xs : List D} (z : Fz (.tup xs)) : ∀ x ∈ xs, Fz x := by
  obtain ⟨p, e⟩ := z
  simp only [toPy, Option.map_eq_some_iff] at e
  obtain ⟨ps, e1, _⟩ := e
  exact fz_all e1
/-- data that repr shows in at most k signs, at most d deep -/
def Sh (k d : Nat) (v : D) : Prop := ∃ p, toPy v = some p ∧ p.showable = true ∧ p.shown.length ≤ k ∧ p.depth ≤ d
theorem Sh.mono {k d k' d' : Nat} {v : D} (s : Sh k d v) (hk : k ≤ k') (hd : d ≤ d') : Sh k' d' v := let ⟨p, e, a, b, c⟩ := s; ⟨p, e, a, Nat.le_trans b hk, Nat.le_trans c hd⟩
theorem Sh.bl (b : Bool) : Sh 5 0 (.bl b) := ⟨.bool b, rfl, rfl, by cases b <;> decide +kernel, Nat.le_refl _⟩
theorem Sh.non : Sh 5 0 .non := ⟨.none, rfl, rfl, by decide +kernel, Nat.le_refl _⟩
theorem Sh.str {z : Str} {k : Nat} (hz : z.length ≤ k) (hs : ∀ c ∈ z.cps.toList, c < 16 ^ 8) : Sh (10 * k + 2) 0 (.str z) :=
  ⟨.str z, rfl, rfl, by
    simp only [PyData.shown]
    have := StrLaws.reprText_len z hs
    omega, by simp only [PyData.depth]; exact Nat.le_refl _⟩
theorem sh_all {k d : Nat} : ∀ {xs : List D}, (∀ x ∈ xs, Sh k d x) → ∃ ps, toPyL xs = some ps ∧ PyData.showableAll ps = true ∧ ((PyData.shownAll ps).map (·.length)).sum ≤ xs.length * k ∧ PyData.depthAll ps ≤ d ∧ (PyData.shownAll ps).length = xs.length
  | [], _ => ⟨[], rfl, rfl, Nat.zero_le _, by simp only [PyData.depthAll]; exact Nat.zero_le _, rfl⟩
  | x :: xs, h => by
    obtain ⟨p, e, a, b, c⟩ := h x List.mem_cons_self
    obtain ⟨ps, e2, a2, b2, c2, l2⟩ := sh_all (fun y hy => h y (List.mem_cons_of_mem _ hy))
    refine ⟨p :: ps, by simp only [toPyL, e, e2], by simp only [PyData.showableAll, a, a2]; rfl, ?_, ?_, by simp only [PyData.shownAll, List.length_cons, l2]⟩
    · simp only [PyData.shownAll, List.map_cons, List.sum_cons, List.length_cons, Nat.add_mul]
      omega
    · simp only [PyData.depthAll]
      exact Nat.max_le.mpr ⟨c, c2⟩
theorem Sh.lst {k d n : Nat} {xs : List D} (h : ∀ x ∈ xs, Sh k d x) (hn : xs.length ≤ n) : Sh (n * (k + 2) + 3) (d + 1) (.lst xs) := by
  obtain ⟨ps, e, a, b, c, l⟩ := sh_all h
  refine ⟨.list ps, by simp only [toPy, e, Option.map_some], by simp only [PyData.showable, a], ?_, by simp only [PyData.depth]; omega⟩
  simp only [PyData.shown]
  have h1 := listText_len_le (PyData.shownAll ps)
  have h2 := Nat.mul_le_mul_right (k + 2) hn
  rw [l] at h1
  rw [Nat.mul_add] at h2
  omega
theorem Sh.tup {k d n : Nat} {xs : List D} (h : ∀ x ∈ xs, Sh k d x) (hn : xs.length ≤ n) : Sh (n * (k + 2) + 3) (d + 1) (.tup xs) := by
  obtain ⟨ps, e, a, b, c, l⟩ := sh_all h
  refine ⟨.tuple ps, by simp only [toPy, e, Option.map_some], by simp only [PyData.showable, a], ?_, by simp only [PyData.depth]; omega⟩
  simp only [PyData.shown]
  have h1 := tupleText_len_le (PyData.shownAll ps)
  have h2 := Nat.mul_le_mul_right (k + 2) hn
  rw [l] at h1
  rw [Nat.mul_add] at h2
  omega
/-- a short text of plain signs -/
structure Sm (k : Nat) (z : Str) : Prop where
  len : z.length ≤ k
  sig : ∀ c ∈ z.cps.toList, c < 16 ^ 8
theorem Sm.mono {j k : Nat} {z : Str} (s : Sm j z) (h : j ≤ k) : Sm k z := ⟨Nat.le_trans s.len h, s.sig⟩
end EV
namespace EV
open PySem PySem.Spec PyProof.Rows L2
/-- where a zip over two sources stands ahead of turn i; off: objects that are no pair of it -/
def ZS (z TI TO i1 i2 : Addr) (St1 St2 : Nat → Heap → Prop) (off : Addr) (i : Nat) (h : Heap) : Prop :=
  IsTupOf2 h TI (.ref i1) (.ref i2) ∧ St1 i h ∧ St2 i h ∧ ((IsZip h z TI TO .none ∧ ∃ a b, IsTupOf2 h TO a b) ∨ ∃ T f oT, IsZipHeld h z TI TO T f ∧ h.get? T = some oT ∧ T ≠ z ∧ T ≠ i1 ∧ T ≠ i2 ∧ T ≠ off)
section
variable {prog : Program} {w : World} {A : Around} {E : Value → Shared → Prop} {s : Shared} {z TI TO i1 i2 off : Addr} {fp1 fp2 : List Addr} {n1 n2 i : Nat} {P1 P2 : Nat → Value → Prop} {St1 St2 : Nat → Heap → Prop}
theorem ZS.frame (D1 : Draws prog w A i1 fp1 n1 P1 St1) (D2 : Draws prog w A i2 fp2 n2 P2 St2) {h h' : Heap} (f1 : off ∉ fp1) (f2 : off ∉ fp2) (fz : off ≠ z) (fT : off ≠ TI) (fO : off ≠ TO) (st : ZS z TI TO i1 i2 St1 St2 off i h) (k : ∀ b o, b ≠ off → h.get? b = some o → h'.get? b = some o) : ZS z TI TO i1 i2 St1 St2 off i h' := by
  obtain ⟨hTI, t1, t2, hz⟩ := st
  refine ⟨k _ _ (Ne.symm fT) hTI, D1.frame _ _ _ t1 fun b hb o e => k b o (fun q => f1 (q ▸ hb)) e, D2.frame _ _ _ t2 fun b hb o e => k b o (fun q => f2 (q ▸ hb)) e, ?_⟩
  rcases hz with ⟨hz, a, b, hTO⟩ | ⟨T, f, oT, hz, hT, r1, r2, r3, r4⟩
  · exact .inl ⟨k _ _ (Ne.symm fz) hz, a, b, k _ _ (Ne.symm fO) hTO⟩
  · exact .inr ⟨T, f, oT, k _ _ (Ne.symm fz) hz, k _ _ r4 hT, r1, r2, r3, r4⟩
end
/-- a source of a zip: iter(v) is a new object o, it draws us -/
structure ZArg (prog : Program) (w : World) (h : Heap) (v : Value) (us : List Value) : Prop where
  ex : ∃ (o : Obj) (B : Heap → Prop) (rd : List Addr), Begins v o B ∧ B h ∧ (∀ b ∈ rd, ∃ o, h.get? b = some o) ∧ ∀ it : Addr, it ∉ rd → ∃ St : Nat → Heap → Prop, (∀ A : Around, A.handled = none → Draws prog w A it (it :: rd) us.length (fun i u => us[i]? = some u) St) ∧ ∀ h', B h' → h'.get? it = some o → St 0 h'
theorem ZArg.list {prog : Program} {w : World} {h : Heap} {l : Addr} {us : List Value} (hl : h.IsList l us.toArray) : ZArg prog w h (.ref l) us := by
  refine ⟨_, _, [l], begins_list l us.toArray, hl, fun b hb => ?_, fun it hit => ?_⟩
  · rw [List.mem_singleton.mp hb]; obtain ⟨o, e, _⟩ := hl; exact ⟨o, e⟩
  · have ne : l ≠ it := fun q => hit (by rw [q]; exact List.mem_singleton.mpr rfl)
    refine ⟨fun i h => h.IsListIter it l i ∧ h.IsList l us.toArray, fun A hA => ?_, fun h' hB e => ⟨⟨_, e, rfl, rfl⟩, hB⟩⟩
    have D := Draws.list (prog := prog) (w := w) (A := A) hA it l ne us.toArray
    have hn : us.toArray.size = us.length := List.size_toArray
    rw [hn] at D
    exact ⟨D.live, D.frame, fun i s Q E hi st hQ => D.item i s Q E hi st fun x h' tk p => hQ x h' tk (by simpa using p), D.done⟩
theorem ZArg.tuple {prog : Program} {w : World} {h : Heap} {l : Addr} {us : List Value} (hl : h.IsTuple l us.toArray) : ZArg prog w h (.ref l) us := by
  refine ⟨_, _, [l], begins_tuple l us.toArray, hl, fun b hb => ?_, fun it hit => ?_⟩
  · rw [List.mem_singleton.mp hb]; obtain ⟨o, e, _⟩ := hl; exact ⟨o, e⟩
  · have ne : l ≠ it := fun q => hit (by rw [q]; exact List.mem_singleton.mpr rfl)
    refine ⟨fun i h => h.IsTupleIter it l i ∧ h.IsTuple l us.toArray, fun A hA => ?_, fun h' hB e => ⟨⟨_, e, rfl, rfl⟩, hB⟩⟩
    have D := Draws.tuple (prog := prog) (w := w) (A := A) hA it l ne us.toArray
    have hn : us.toArray.size = us.length := List.size_toArray
    rw [hn] at D
    exact ⟨D.live, D.frame, fun i s Q E hi st hQ => D.item i s Q E hi st fun x h' tk p => hQ x h' tk (by simpa using p), D.done⟩
/-- what a zip's parts are, ahead of its first turn -/
structure ZOk (prog : Program) (w : World) (z TI TO i1 i2 : Addr) (rd1 rd2 : List Addr) (St1 St2 : Nat → Heap → Prop) (us1 us2 : List Value) (h : Heap) : Prop where
  zip : IsZip h z TI TO .none
  ti : IsTupOf2 h TI (.ref i1) (.ref i2)
  to : ∃ a b, IsTupOf2 h TO a b
  s1 : St1 0 h
  s2 : St2 0 h
  rd : ∀ b ∈ rd1 ++ rd2, ∃ o, h.get? b = some o
structure ZMade (prog : Program) (w : World) (h0 h : Heap) (z TI TO i1 i2 : Addr) (rd1 rd2 : List Addr) (St1 St2 : Nat → Heap → Prop) (us1 us2 : List Value) : Prop where
  sep : ZipSep2 z TI TO i1 i2 (i1 :: rd1) (i2 :: rd2)
  d1 : ∀ A : Around, A.handled = none → Draws prog w A i1 (i1 :: rd1) us1.length (fun i u => us1[i]? = some u) St1
  d2 : ∀ A : Around, A.handled = none → Draws prog w A i2 (i2 :: rd2) us2.length (fun i u => us2[i]? = some u) St2
  ok : ZOk prog w z TI TO i1 i2 rd1 rd2 St1 St2 us1 us2 h
  new : ∀ b ∈ [z, TI, TO, i1, i2], h0.objs.size ≤ b
  kept : ∀ b o, h0.get? b = some o → h.get? b = some o
theorem ZOk.keep {prog : Program} {w : World} {h0 hm : Heap} {z TI TO i1 i2 : Addr} {rd1 rd2 : List Addr} {St1 St2 : Nat → Heap → Prop} {us1 us2 : List Value} {h h' : Heap} (m : ZMade prog w h0 hm z TI TO i1 i2 rd1 rd2 St1 St2 us1 us2) (A : Around) (hA : A.handled = none)
    (k : ZOk prog w z TI TO i1 i2 rd1 rd2 St1 St2 us1 us2 h) (c : ∀ b o, h.get? b = some o → h'.get? b = some o) : ZOk prog w z TI TO i1 i2 rd1 rd2 St1 St2 us1 us2 h' :=
  ⟨c _ _ k.zip, c _ _ k.ti, let ⟨a, b, e⟩ := k.to; ⟨a, b, c _ _ e⟩, (m.d1 A hA).frame _ _ _ k.s1 fun b _ o e => c _ _ e, (m.d2 A hA).frame _ _ _ k.s2 fun b _ o e => c _ _ e, fun b hb => let ⟨o, e⟩ := k.rd b hb; ⟨o, c _ _ e⟩⟩
end EV
namespace EV
open PySem PySem.Spec PyProof.Rows L2
abbrev KVD := List (Key × D)
def putP {κ : Type} [DecidableEq κ] (kvs : List (κ × D)) (k : κ) (d : D) : List (κ × D) := if (kvs.any fun kv => decide (kv.1 = k)) = true then kvs.map (fun kv => if kv.1 = k then (kv.1, d) else kv) else kvs ++ [(k, d)]
def mergeP {κ : Type} [DecidableEq κ] (kvs more : List (κ × D)) : List (κ × D) := more.foldl (fun acc kv => putP acc kv.1 kv.2) kvs
def KVR {κ : Type} (C : Ctx) (ρ : Rho) (H : Hp) : List (κ × D) → List (κ × V) → Prop := Paired fun p q => p.1 = q.1 ∧ Rel C ρ H p.2 q.2
/-- the pairs of a list of pairs -/
def pairsD : List D → Option KVD
  | [] => some []
  | .tup [k, v] :: r => match keyOf k with
    | some q => (pairsD r).map ((q, v) :: ·)
    | none => none
  | _ => none
def zipP : List D → List D → Option KVD
  | k :: r, v :: t => match keyOf k with
    | some q => (zipP r t).map ((q, v) :: ·)
    | none => none
  | _, _ => some []
section
variable {X : Cx} {C : Ctx} {W : WX} {ρ ρ' : Rho} {H H' : Hp} {hd : Hd} {σ : L2.St} {apos cpos pos p1 p2 p3 q1 q2 : Pos} {a b o e f i : Expr} {ma mb mo me mf : M D}
theorem KVR.len {κ : Type} {kvs : List (κ × D)} {vvs : List (κ × V)} (r : KVR C ρ H kvs vvs) : kvs.length = vvs.length := Paired.length r
theorem KVR.of {κ : Type} : ∀ {ks : List κ} {ds : List D} {vs : List V}, RelL C ρ H ds vs → ks.length = ds.length → KVR C ρ H (ks.zip ds) (ks.zip vs)
  | [], [], vs, r, _ => by simp only [RelL] at r; subst r; exact .nil
  | [], _ :: _, _, _, h => by cases h
  | _ :: _, [], _, _, h => by cases h
  | k :: ks, d :: ds, vs, r, h => by
    simp only [RelL] at r
    obtain ⟨v, t, rfl, r1, r2⟩ := r
    exact .cons ⟨rfl, r1⟩ (KVR.of r2 (Nat.succ.inj h))
theorem KVR.to {κ : Type} : ∀ {kvs : List (κ × D)} {vvs : List (κ × V)}, KVR C ρ H kvs vvs → RelL C ρ H (kvs.map (·.2)) (vvs.map (·.2)) ∧ (kvs.map (·.1)).zip (vvs.map (·.2)) = vvs
  | _, _, .nil => ⟨RelL.nil, rfl⟩
  | _, _, .cons (a := p) (b := q) r t => by
    obtain ⟨h1, h2⟩ := KVR.to t
    refine ⟨RelL.cons r.2 h1, ?_⟩
    rw [List.map_cons, List.map_cons, List.zip_cons_cons, h2, r.1]
theorem KVR.keeps {κ : Type} {kvs : List (κ × D)} {vvs : List (κ × V)} (x : Keeps ρ ρ' H H') (r : KVR C ρ H kvs vvs) : KVR C ρ' H' kvs vvs := Paired.mapP r fun _ _ z => ⟨z.1, Rel.keeps x _ _ z.2⟩
theorem KVR.ext {κ : Type} {kvs : List (κ × D)} {vvs : List (κ × V)} (x : Ext ρ ρ' H H') (r : KVR C ρ H kvs vvs) : KVR C ρ' H' kvs vvs := r.keeps x.keeps
theorem KVR.any {κ : Type} [DecidableEq κ] {kvs : List (κ × D)} {vvs : List (κ × V)} (r : KVR C ρ H kvs vvs) (k : κ) : (kvs.any fun kv => decide (kv.1 = k)) = vvs.any fun kv => decide (kv.1 = k) := by
  induction r with
  | nil => rfl
  | cons h t ih => rw [List.any_cons, List.any_cons, ih, h.1]
theorem KVR.repl {κ : Type} [DecidableEq κ] {d : D} {v : V} {k : κ} (rd : Rel C ρ H d v) : ∀ {kvs : List (κ × D)} {vvs : List (κ × V)}, KVR C ρ H kvs vvs → KVR C ρ H (kvs.map (fun kv => if kv.1 = k then (kv.1, d) else kv)) (vvs.map (fun kv => if kv.1 = k then (kv.1, v) else kv))
  | _, _, .nil => .nil
  | _, _, .cons (a := p) (b := q) h t => by
    rw [List.map_cons, List.map_cons]
    refine .cons ?_ (KVR.repl rd t)
    by_cases e : p.1 = k
    · rw [if_pos e, if_pos (h.1 ▸ e)]; exact ⟨h.1, rd⟩
    · rw [if_neg e, if_neg (h.1 ▸ e)]; exact h
theorem KVR.put {κ : Type} [DecidableEq κ] {kvs : List (κ × D)} {vvs : List (κ × V)} {d : D} {v : V} (r : KVR C ρ H kvs vvs) (k : κ) (rd : Rel C ρ H d v) : KVR C ρ H (putP kvs k d) (putK vvs k v) := by
  unfold putP putK
  rw [r.any k]
  split
  · exact r.repl rd
  · exact Paired.snoc r ⟨rfl, rd⟩
theorem KVR.merge : ∀ {more kvs : KVD} {mv vvs : List (Key × V)}, KVR C ρ H more mv → KVR C ρ H kvs vvs → KVR C ρ H (mergeP kvs more) (mergeK vvs mv)
  | _, _, _, _, .nil, r => r
  | _, kvs, _, vvs, .cons (a := p) (b := q) (l₁ := ms) (l₂ := ns) h t, r => by
    have e := r.put p.1 h.2
    rw [h.1] at e
    have := KVR.merge (more := ms) (mv := ns) t e
    rw [← h.1] at this
    show KVR C ρ H (mergeP (putP kvs p.1 p.2) ms) (mergeK (putK vvs q.1 q.2) ns)
    rw [← h.1]
    exact this
/-- a new dict of these pairs (m: one that will be changed) -/
def finD (m : Bool) (r : Option KVD) (h : Hd) : Res D := match r with
  | none => .bad
  | some kvs => if m then .ok (.ref h.length) (h ++ [.dic (kvs.map (·.1)) (kvs.map (·.2))]) else .ok (.dic (kvs.map (·.1)) (kvs.map (·.2))) h
def fDict (d : D) (h : Hd) : Option KVD := match dicOf d h with
  | some (ks, ds) => some (ks.zip ds)
  | none => match lstOf d h with
    | some xs => (pairsD xs).map (mergeP [])
    | none => none
def mdict (m : Bool) (a : M D) : M D := fun env h => (a env h).bind fun x h1 => finD m (fDict x h1) h1
end
end EV
namespace EV
open PySem PySem.Spec PyProof.Rows L2
section
variable {X : Cx} {C : Ctx} {W : WX} {ρ ρ' : Rho} {H H' : Hp} {hd : Hd} {σ : L2.St} {apos cpos pos p1 p2 p3 q1 q2 q3 : Pos} {a b o e f i : Expr} {ma mb mo me mf : M D}
def mdzip (m : Bool) (a b : M D) : M D := fun env h => (a env h).bind fun x h1 => (b env h1).bind fun y h2 => finD m (match seqOf x h2, seqOf y h2 with
  | some xs, some ys => (zipP xs ys).map (mergeP [])
  | _, _ => none) h2
end
end EV
namespace EV
open PySem PySem.Spec PyProof.Rows L2
section
variable {X : Cx} {C : Ctx} {W : WX} {ρ ρ' : Rho} {H H' : Hp} {hd : Hd} {σ : L2.St} {env : Env} {apos cpos pos p1 p2 p3 q1 q2 q3 : Pos} {a b o e f i : Expr} {ma mb mo me mf : M D}
/-- an object that was made out of sight is a new one that changes -/
theorem SimH.showO {p : Addr} {o : MO} (s : SimH C (ρ.hide p) H hd) (hu : p ∉ ρ.hid) (hr : Unr ρ p) (r : ORel C (ρ.hide p) H o (H p)) : SimH C (ρ.push p) H (hd ++ [o]) := by
  have kp : Keeps (ρ.hide p) (ρ.push p) H H := ⟨fun a u h _ f => ⟨h, fun n e => by
    rcases get_snoc e with z | ⟨_, z⟩
    · exact f.1 n z
    · cases z; exact f.2 List.mem_cons_self, fun z => f.2 (List.mem_cons_of_mem _ z)⟩, fun n h => .inl (List.getElem?_append_left h)⟩
  refine ⟨by simp [s.len], fun m n a h1 h2 => ?_, fun n a e => ?_, fun n o e h => ?_, fun a ha => s.hidS a (List.mem_cons_of_mem _ ha), fun a ha => s.hidT a (List.mem_cons_of_mem _ ha), fun n a e ha => ?_, s.tabs⟩
  · rcases get_snoc h1 with z1 | ⟨z1, z1'⟩ <;> rcases get_snoc h2 with z2 | ⟨z2, z2'⟩
    · exact s.inj m n a z1 z2
    · cases z2'; exact (hr m z1).elim
    · cases z1'; exact (hr n z2).elim
    · omega
  · rcases get_snoc e with z | ⟨z, z'⟩
    · obtain ⟨u, h1, h2⟩ := s.at_ n a z
      exact ⟨u, by rw [List.getElem?_append_left (List.getElem?_eq_some_iff.mp h1).1]; exact h1, h2.keeps kp⟩
    · cases z'
      have hl : ρ.r.length = hd.length := s.len
      exact ⟨o, by rw [z, hl]; simp, r.keeps kp⟩
  · rcases get_snoc h with z | ⟨_, z⟩
    · have hn : n < hd.length := by rw [← s.len]; exact (List.getElem?_eq_some_iff.mp z).1
      rw [List.getElem?_append_left hn] at e
      exact s.live n o e z
    · cases z
  · rcases get_snoc e with z | ⟨_, z⟩
    · exact s.apart n a z (List.mem_cons_of_mem _ ha)
    · cases z; exact hu ha
theorem Ext.showP {p : Addr} (x : Ext ρ ρ' H H') (hp : H p = none) : Ext ρ (ρ'.push p) H H' :=
  ⟨by have := x.le; simp; omega, fun n hn => by
    have hn' : n < ρ'.r.length := Nat.lt_of_lt_of_le hn x.le
    rcases x.old n hn with z | z
    · exact .inl (by rw [← z]; exact List.getElem?_append_left hn')
    · exact .inr (by rw [← z]; exact List.getElem?_append_left hn'), fun n a hn e => by
    rcases get_snoc e with z | ⟨_, z⟩
    · exact x.new n a hn z
    · cases z; exact hp, x.keep, x.dom, x.hid, x.tabs⟩
def mpairs : List (M D × M D) → M (List (D × D))
  | [] => fun _ h => .ok [] h
  | (a, b) :: r => fun env h => (a env h).bind fun x h1 => (b env h1).bind fun y h2 => (mpairs r env h2).bind fun xs h3 => .ok ((x, y) :: xs) h3
def keysP : List (D × D) → Option KVD
  | [] => some []
  | (k, v) :: r => match keyOf k with
    | some q => (keysP r).map ((q, v) :: ·)
    | none => none
def mdisp (m : Bool) (l : List (M D × M D)) : M D := fun env h => (mpairs l env h).bind fun xs h1 => finD m (if xs.length ≤ 15 then (keysP xs).map (mergeP []) else none) h1
def PRel (C : Ctx) (ρ : Rho) (H : Hp) : List (D × D) → List (V × V) → Prop := Paired fun p q => Rel C ρ H p.1 q.1 ∧ Rel C ρ H p.2 q.2
theorem PRel.ext {xs : List (D × D)} {ps : List (V × V)} (x : Ext ρ ρ' H H') (r : PRel C ρ H xs ps) : PRel C ρ' H' xs ps := Paired.mapP r fun _ _ z => ⟨Rel.ext x _ _ z.1, Rel.ext x _ _ z.2⟩
theorem keys_rel : ∀ {xs : List (D × D)} {ps : List (V × V)} {kvs : KVD}, keysP xs = some kvs → PRel C ρ H xs ps → ∃ vvs : List (Key × V), ps = vvs.map (fun kv => (kV kv.1, kv.2)) ∧ KVR C ρ H kvs vvs ∧ vvs.length = xs.length
  | [], ps, kvs, e, r => by
    cases r
    cases e
    exact ⟨[], rfl, .nil, rfl⟩
  | (k, v) :: xs, ps, kvs, e, r => by
    unfold keysP at e
    split at e
    · rename_i key ek
      cases ep : keysP xs with
      | none => rw [ep] at e; cases e
      | some more =>
        rw [ep] at e
        simp only [Option.map_some, Option.some.injEq] at e; subst e
        cases r with
        | @cons _ q _ qs h t =>
        obtain ⟨vvs, rfl, h2, h3⟩ := keys_rel ep t
        obtain ⟨y, z⟩ := q
        refine ⟨(key, z) :: vvs, ?_, .cons ⟨rfl, h.2⟩ h2, by simp [h3]⟩
        rw [List.map_cons]
        have := key_of h.1 ek
        dsimp only at this
        rw [this]
    · cases e
def trsOf (C : Ctx) (W : WX) (l : List (M D × M D)) : List (TE × TE) := l.map fun p => (tE C W p.1, tE C W p.2)
theorem seq_pairs : ∀ {l : List (M D × M D)} {ρ : Rho} {H : Hp} {hd : Hd} {Q' : List (V × V) → Hp → Prop}, EnvRel C ρ H env σ → SimH C ρ H hd → PostX C (PRel C) ρ H (fun c d H' => W c d σ H') Q' (mpairs l env hd) → tPairs (trsOf C W l) σ H Q'
  | [], ρ, H, hd, Q', er, sh, p => p ρ H [] Ext.refl sh .nil
  | (a, b) :: r, ρ, H, hd, Q', er, sh, p => by
    unfold mpairs at p
    refine seqE er sh p fun v H1 ρ1 hd1 x x1 er1 sh1 r1 p1 => seqE er1 sh1 p1 fun w H2 ρ2 hd2 y x2 er2 sh2 r2 p2 => seq_pairs (l := r) er2 sh2 ?_
    cases e : mpairs r env hd2 with
    | bad => rw [e] at p2; exact p2
    | exc z h => rw [e] at p2; exact p2
    | ok xs h =>
      rw [e] at p2
      exact fun ρ3 H3 ps x3 s3 r3 => p2 ρ3 H3 ((v, w) :: ps) x3 s3 (.cons ⟨Rel.ext (x2.trans x3) _ _ r1, Rel.ext x3 _ _ r2⟩ r3)
theorem PostX.disp {m : Bool} {l : List (M D × M D)} {Q : VK} {q : Addr} (sh : SimH C ρ H hd) (hq : H q = none) (p : PostX C (Rel C) ρ H (fun c d H' => W c d σ H') Q (mdisp m l env hd)) :
    PostX C (PRel C) (ρ.hide q) (upd H q (.dK [])) (fun c d H' => W c d σ H') (fun ps H2 => H2 q = some (.dK []) ∧ ∃ kvs : List (Key × V), ps = kvs.map (fun kv => (kV kv.1, kv.2)) ∧ kvs.length ≤ 15 ∧ Q (.ref q) (upd H2 q (.dK (mergeK [] kvs)))) (mpairs l env hd) := by
  have hqh : q ∉ ρ.hid := fun z => sh.hidS q z hq
  have un : ∀ {ρ5 : Rho} {H5 : Hp}, Ext (ρ.hide q) ρ5 (upd H q (.dK [])) H5 → ∃ ρ6 : Rho, ρ5 = ρ6.hide q ∧ Ext ρ ρ6 H H5 ∧ ρ6.hid = ρ.hid := fun {ρ5 H5} x5 => by
    refine ⟨⟨ρ5.r, ρ.hid⟩, ?_, (Ext.upd_new hq).trans x5.unhide, rfl⟩
    have := x5.hid
    cases ρ5
    simp only at this
    rw [this]
  unfold mdisp at p
  cases e : mpairs l env hd with
  | bad => rw [e] at p; exact p
  | exc z h =>
    rw [e] at p
    intro ρ5 H5 dd x5 s5 r5
    obtain ⟨ρ6, rfl, xe, _⟩ := un x5
    obtain ⟨A, vs, e1, e2, e3, e4⟩ := r5
    exact p ρ6 H5 dd xe s5.unhide ⟨A, vs, e1, e2, e3, RelL.keeps Keeps.unhide _ _ e4⟩
  | ok xs h =>
    rw [e] at p
    rw [Res.bind_ok] at p
    intro ρ5 H5 ps x5 s5 r5
    obtain ⟨ρ6, rfl, xe, eh⟩ := un x5
    have hur : Unr ρ6 q := fun n z => s5.apart n q z List.mem_cons_self
    have eq5 : H5 q = some (.dK []) := x5.keep q _ upd_same noT_dK (fun n z => (sh.unm hq).1 n z)
    split at p
    · rename_i hl
      cases ek : keysP xs with
      | none => rw [ek] at p; exact p.elim
      | some kvs =>
        rw [ek] at p
        obtain ⟨vvs, rfl, kr, kl⟩ := keys_rel ek r5
        refine ⟨eq5, vvs, rfl, by omega, ?_⟩
        have s6 : SimH C (ρ6.hide q) (upd H5 q (.dK (mergeK [] vvs))) h := s5.grow
        have mr : KVR C (ρ6.hide q) (upd H5 q (.dK (mergeK [] vvs))) (mergeP [] kvs) (mergeK [] vvs) := (KVR.merge kr .nil).keeps Keeps.grow
        obtain ⟨rl, ez⟩ := mr.to
        have xg := xe.grow (o := .dK (mergeK [] vvs)) hq fun u e => s5.hidT _ List.mem_cons_self u e
        cases m with
        | true =>
          refine p (ρ6.push q) _ _ (xg.showP hq) (s6.showO (by rw [eh]; exact hqh) hur ⟨(mergeK [] vvs).map (·.2), ?_, rl, by simp⟩) (rel_new s6.unhide)
          rw [ez, upd_same]
        | false =>
          refine p ρ6 _ _ xg s6.unhide ?_
          simp only [Rel]
          refine ⟨q, (mergeK [] vvs).map (·.2), rfl, ⟨?_, hur, by rw [eh]; exact hqh⟩, RelL.keeps Keeps.unhide _ _ rl, by simp⟩
          rw [ez, upd_same]
    · exact p.elim
structure DispOk (X : Cx) (C : Ctx) (W : WX) (pos : Pos) (keys : List (Option Expr)) (values : List Expr) (l : List (M D × M D)) : Prop where
  pps : PPs X pos keys values (trsOf C W l)
theorem dsp_nil : DispOk X C W pos [] [] [] := ⟨pps_nil⟩
theorem dsp_cons {ks : List (Option Expr)} {vs : List Expr} {l : List (M D × M D)} (ha : PE X a (tE C W ma)) (hb : PE X b (tE C W mb)) (r : DispOk X C W pos ks vs l) : DispOk X C W pos (some a :: ks) (b :: vs) ((ma, mb) :: l) := ⟨pps_cons ha hb r.pps⟩
theorem ev_disp {m : Bool} {ks : List (Option Expr)} {vs : List Expr} {l : List (M D × M D)} (d : DispOk X C W pos ks vs l) (hall : ks.all (·.isSome) = true) (hl : (ks.length == vs.length) = true) (h0 : (!ks.isEmpty) = true) (h15 : decide (ks.length ≤ 15) = true) : PE X (.Dict ks vs pos) (tE C W (mdisp m l)) :=
  weakE (pe_disp d.pps hall (by simpa using hl) (by cases ks with | nil => cases h0 | cons => exact fun z => nomatch z) (of_decide_eq_true h15)) fun σ H Q ⟨ρ, env, hd, er, sh, p⟩ q hq =>
    seq_pairs (er.keeps (Keeps.hide hq)) (sh.hide hq) (PostX.disp sh hq p)
end
end EV
namespace EV
open PySem PySem.Spec PyProof.Rows L2
section
variable {X : Cx} {C : Ctx} {W : WX} {CX : CXT} {k j n i : Nat} {ρ ρ' : Rho} {H H' : Hp} {hd : Hd} {σ : L2.St} {env : Env} {p apos cpos pos p1 p2 p3 q1 q2 q3 : Pos} {a b o e f : Expr} {es : List Expr} {ma mb mo me mf : M D} {ms : M (List D)} {x : Str} {sa : MS}
structure LocOk (C : Ctx) (P : Program) (w : World) (mg : Str → Option Value) (base : Heap) (CX : CXT) (k : Nat) (j : Nat) (n : Nat) (F : FunT) : Prop where
  ex : ∃ (f : Addr) (fd : FuncData) (ps : List Str), C.fa j = f ∧ PySem.W.keepIn C.K (.ref f) = true ∧ FnG P w C.K mg base CX k f fd ps (spM C n F) ∧ Binds C.K fd ps []
theorem LocOk.of {P : Program} {w : World} {mg : Str → Option Value} {base : Heap} {F : FunT} (c : CallOk C P w mg base CX k x n F []) (h : mg x = some (.ref (C.fa j))) : LocOk C P w mg base CX k j n F := by
  obtain ⟨f, fd, ps, dvs, ds, e1, e2, G, b, v, r⟩ := c.ex
  have hd := r ⟨[], []⟩ fun _ => none
  simp only [RelL] at hd
  subst hd
  rw [h] at e1
  cases e1
  cases v
  exact ⟨_, fd, ps, rfl, e2, G, b⟩
theorem CallOk.weak {P : Program} {w : World} {mg : Str → Option Value} {base : Heap} {F : FunT} {dd : List D} (c : CallOk C P w mg base CX j x n F dd) (h : j ≤ k) : CallOk C P w mg base CX k x n F dd := by
  obtain ⟨f, fd, ps, dvs, ds, e1, e2, G, b, v, r⟩ := c.ex
  exact ⟨f, fd, ps, dvs, ds, e1, e2, G.weak h, b, v, r⟩
/-- a def as a value -/
structure FVal (C : Ctx) (mg : Str → Option Value) (x : Str) (j : Nat) : Prop where
  at_ : mg x = some (.ref (C.fa j))
theorem FVal.val {mg : Str → Option Value} (f : FVal C mg x j) : GVal C mg x (.fn j) := ⟨.ref (C.fa j), _, f.at_, rfl, fun _ _ => by simp only [Rel]⟩
def LocAll (C : Ctx) (P : Program) (w : World) (mg : Str → Option Value) (base : Heap) (CX : CXT) (k : Nat) : List (Nat × Nat × FunT) → Prop
  | [] => True
  | (j, n, F) :: r => LocOk C P w mg base CX k j n F ∧ LocAll C P w mg base CX k r
theorem LocAll.get {P : Program} {w : World} {mg : Str → Option Value} {base : Heap} {F : FunT} : ∀ {T : List (Nat × Nat × FunT)}, LocAll C P w mg base CX k T → T.lookup j = some (n, F) → LocOk C P w mg base CX k j n F
  | [], _, e => by cases e
  | (j0, n0, F0) :: r, h, e => by
    rw [List.lookup_cons] at e
    split at e
    · rename_i q
      have : j = j0 := by simpa using q
      subst this
      cases e
      exact h.1
    · exact LocAll.get h.2 e
end
end EV
namespace EV
open PySem PySem.Spec PyProof.Rows L2
def fReprA : OpN
  | [.str z], _ => if (reprText z).length ≤ sizeLine then some (.v (.str (reprText z))) else none
  | [.non], _ => some (.v (.str "None"))
  | [.bl b], _ => some (.v (.str (if b then "True" else "False")))
  | [.int i], _ => if i.natAbs.log2 < 1920 then some (.v (.str (toString i))) else none
  | xs, h => fRepr xs h
section
variable {X : Cx} {C : Ctx} {ρ : RhoT} {H : Hp} {hd : Hd}
theorem small_line {n : Nat} (h : n ≤ 5000) : n ≤ sizeLine := by rw [sizeLine_eq]; omega
theorem fn_reprA (hK : X.K = C.K) (hg : X.A.guards = some []) (hu : X.A.units + 64 < cLine) : CallR X (.builtin "repr") (rON C fReprA) := by
  intro pins s σ H xs us Q I r ⟨ρ, hd, ds, sh, rl, p⟩
  have plain : ∀ (h : fReprA ds hd = fRepr ds hd), wpAny (model X.prog X.w) X.A (call (.builtin "repr") us) (EP X pins σ Q) X.xe s := fun h => fn_repr hK hg hu pins s σ H xs us Q I r ⟨ρ, hd, ds, sh, rl, h ▸ p⟩
  match ds, rl, p, plain with
  | [.str z], rl, p, _ =>
    obtain ⟨v, rfl, r1⟩ := relL1 rl
    obtain ⟨rfl, hz⟩ := of_str r1
    cases r with
    | @cons _ u _ _ q1 q2 =>
    cases q2
    obtain ⟨t, rfl⟩ := q1
    change PostO C ρ H hd Q (if (reprText z).length ≤ sizeLine then some (.v (.str (reprText z))) else none) at p
    split at p
    · rename_i hl
      exact PySem.P.repr_of_str ⟨.str _, H, I.tok _, ⟨_, rfl⟩, p.v sh (rel_str hl)⟩ hl
    · exact p.elim
  | [.non], rl, p, _ =>
    obtain ⟨v, rfl, r1⟩ := relL1 rl
    obtain rfl := of_non r1
    cases r with
    | @cons _ u _ _ q1 q2 =>
    cases q2
    obtain rfl := q1
    exact PySem.P.repr_of_none ⟨.str _, H, I.tok _, ⟨_, rfl⟩, p.v sh (rel_str (small_line (by decide)))⟩
  | [.bl b], rl, p, _ =>
    obtain ⟨v, rfl, r1⟩ := relL1 rl
    obtain rfl := of_bl r1
    cases r with
    | @cons _ u _ _ q1 q2 =>
    cases q2
    obtain rfl := q1
    exact PySem.P.repr_of_bool ⟨.str _, H, I.tok _, ⟨_, rfl⟩, p.v sh (rel_str (by cases b <;> exact small_line (by decide)))⟩
  | [.int i], rl, p, _ =>
    obtain ⟨v, rfl, r1⟩ := relL1 rl
    obtain rfl := of_int r1
    cases r with
    | @cons _ u _ _ q1 q2 =>
    cases q2
    obtain ⟨t, rfl⟩ := q1
    change PostO C ρ H hd Q (if i.natAbs.log2 < 1920 then some (.v (.str (toString i))) else none) at p
    split at p
    · rename_i hl
      exact PySem.P.repr_of_int hl ⟨.str _, H, I.tok _, ⟨_, rfl⟩, p.v sh (rel_str (int_text_fits hl))⟩
    · exact p.elim
  | [], _, _, plain => exact plain rfl
  | [.tup _], _, _, plain => exact plain rfl
  | [.lst _], _, _, plain => exact plain rfl
  | [.ref _], _, _, plain => exact plain rfl
  | [.fn _], _, _, plain => exact plain rfl
  | [.ty _], _, _, plain => exact plain rfl
  | [.cl _], _, _, plain => exact plain rfl
  | [.scr _], _, _, plain => exact plain rfl
  | [.dic _ _], _, _, plain => exact plain rfl
  | [.dct _ _], _, _, plain => exact plain rfl
  | [.exn _ _ _], _, _, plain => exact plain rfl
  | [.clo _ _ _ _ _ _], _, _, plain => exact plain rfl
  | [.ktup _], _, _, plain => exact plain rfl
  | d1 :: _ :: _, _, _, plain => exact plain (by cases d1 <;> rfl)
end
end EV
namespace EV
open PySem PySem.Spec PyProof.Rows L2
open Sem (wp)
section
variable {X : Cx} {C : Ctx} {W : WX} {e : Expr} {ma : M D} {ρ : RhoT} {H : Hp} {p pos tpos : Pos} {elts : List Expr} {kk : Nat}
def numbered (xs : List D) : List D := xs.zipIdx.map fun q => .tup [.int (q.2 : Nat), q.1]
def ienum (a : M D) : MI := fun env h => (a env h).bind fun x h1 => match x with
  | .tup xs => .ok (numbered xs) h1
  | .lst xs => .ok (numbered xs) h1
  | _ => .bad
end
end EV
namespace EV
open PySem PySem.Spec PyProof.Rows L2 SrtO
/-- the order of tuples -/
def lexL : List Int → List Int → Bool
  | _, [] => false
  | [], _ :: _ => true
  | x :: xs, y :: ys => if x = y then lexL xs ys else decide (x < y)
def insL (x : List Int) : List (List Int) → List (List Int)
  | [] => [x]
  | y :: l => if lexL y x then y :: insL x l else x :: y :: l
def sortLL (l : List (List Int)) : List (List Int) := l.foldr insL []
def tupI (ns : List Int) : D := .tup (ns.map .int)
def intsT : List D → Option (List (List Int))
  | [] => some []
  | .tup xs :: r => match intsOf xs, intsT r with
    | some (n :: ns), some l => some ((n :: ns) :: l)
    | _, _ => none
  | _ => none
def fSortT : OpN
  | [d], h => match lstOf d h with
    | some xs => (intsT xs).map fun l => .new ((sortLL l).map tupI)
    | none => none
  | _, _ => none
end EV
namespace EV
open PySem PySem.Spec PyProof.Rows L2
def keyLs : List D → Option (List Key)
  | [] => some []
  | d :: r => match keyOf d, keyLs r with
    | some k, some ks => some (k :: ks)
    | _, _ => none
def keyT : D → Option (List Key)
  | .tup xs => keyLs xs
  | _ => none
def keyD : Key → D
  | .inl i => .int i
  | .inr s => .str s
def dctOf (d : D) (h : Hd) : Option (List (List Key) × List D) := match d with
  | .dct ks xs => some (ks, xs)
  | .ref n => match h[n]? with
    | some (.dct ks xs) => some (ks, xs)
    | _ => none
  | _ => none
def valT : List (List Key) → List D → List Key → Option D
  | k :: ks, x :: xs, q => if k = q then some x else valT ks xs q
  | _, _, _ => none
section
variable {X : Cx} {C : Ctx} {W : WX} {ρ : RhoT} {H : Hp} {hd : Hd} {σ : L2.St} {pos cpos apos : Pos} {o e i f : Expr} {mo me mv mk : M D}
def mdct0 (m : Bool) : M D := fun _ h => if m then .ok (.ref h.length) (h ++ [.dct [] []]) else .ok (.dct [] []) h
/-- {} of ints and texts, one that changes -/
def mdicR : M D := fun _ h => .ok (.ref h.length) (h ++ [.dic [] []])
def mgetT (o e : M D) : M D := fun env h => (o env h).bind fun d h1 => (e env h1).bind fun k h2 => match dctOf d h2, keyT k with
  | some (ks, xs), some q => (match valT ks xs q with | some x => .ok x h2 | none => .bad)
  | _, _ => .bad
def putTo (v d k : D) : MS := fun env h => match d with
  | .ref n => (match h[n]?, keyT k with
    | some (.dct ks xs), some q => if ks.length < sizeLine then some (.nx, env, h.set n (.dct ((putP (ks.zip xs) q v).map (·.1)) ((putP (ks.zip xs) q v).map (·.2)))) else none
    | _, _ => none)
  | _ => none
def sPutT (mv mo mk : M D) : MS := ofE mv fun v => ofE mo fun d => ofE mk fun k => putTo v d k
def fListT : OpN
  | [d], h => (dctOf d h).map fun q => .new (q.1.map fun k => .tup (k.map keyD))
  | _, _ => none
def notRef : D → Nat → Bool
  | .ref m, n => m != n
  | _, _ => true
def fUpdT : OpM
  | .ref n, [x], h => match h[n]?, dctOf x h with
    | some (.dct ks xs), some (js, ys) => if ks.isEmpty = false ∧ ks.length + js.length ≤ sizeLine ∧ notRef x n = true then some (.non, h.set n (.dct ((mergeP (ks.zip xs) (js.zip ys)).map (·.1)) ((mergeP (ks.zip xs) (js.zip ys)).map (·.2)))) else none
    | _, _ => none
  | _, _, _ => none
def isDct (d : D) (h : Hd) : Bool := (dctOf d h).isSome
/-- xs.clear() -/
def fClear : OpM
  | .ref n, [], h => match h[n]? with
    | some (.lst _) => some (.non, h.set n (.lst []))
    | _ => none
  | _, _, _ => none
end
end EV
namespace EV
open PySem PySem.Spec PyProof.Rows L2
/-- it ends with a value of which Q holds, or an error of which E holds -/
def Sat {α : Type} (r : Res α) (Q : α → Hd → Prop) (E : Exn → Hd → Prop) : Prop := match r with
  | .ok a h => Q a h
  | .exc x h => E x h
  | .bad => False
def SatS (r : SR) (Q : Fl → Env → Hd → Prop) : Prop := match r with
  | some (fl, e, h) => Q fl e h
  | none => False
def SatO {α : Type} (r : Option α) (Q : α → Prop) : Prop := match r with
  | some a => Q a
  | none => False
section
variable {α β : Type} {a : α} {h : Hd} {Q : α → Hd → Prop} {Q' : D → Hd → Prop} {E : Exn → Hd → Prop} {S : Fl → Env → Hd → Prop} {env : Env} {m : Bool} {d : D} {xs : List D}
@[simp] theorem sat_ok : Sat (.ok a h) Q E = Q a h := rfl
@[simp] theorem sat_exc (x : Exn) : Sat (.exc x h : Res α) Q E = E x h := rfl
@[simp] theorem sat_bad : Sat (.bad : Res α) Q E = False := rfl
@[simp] theorem sat_bind (r : Res β) (f : β → Hd → Res α) : Sat (r.bind f) Q E = Sat r (fun a h => Sat (f a h) Q E) E := by cases r <;> rfl
theorem Sat.mono {r : Res α} {Q2 : α → Hd → Prop} {E2 : Exn → Hd → Prop} (s : Sat r Q E) (k : ∀ a h, Q a h → Q2 a h) (ke : ∀ x h, E x h → E2 x h) : Sat r Q2 E2 := by
  cases r with
  | ok a h => exact k a h s
  | exc x h => exact ke x h s
  | bad => exact s
theorem Sat.of {r : Res α} {a : α} {h : Hd} (e : r = .ok a h) (q : Q a h) : Sat r Q E := by rw [e]; exact q
@[simp] theorem satS_some (fl : Fl) (e : Env) : SatS (some (fl, e, h)) S = S fl e h := rfl
@[simp] theorem satS_none : SatS none S = False := rfl
@[simp] theorem satO_some (Q : α → Prop) : SatO (some a) Q = Q a := rfl
@[simp] theorem satO_none (Q : α → Prop) : SatO none Q = False := rfl
theorem SatS.mono {r : SR} {S2 : Fl → Env → Hd → Prop} (s : SatS r S) (k : ∀ f e h, S f e h → S2 f e h) : SatS r S2 := by
  match r, s with
  | some (f, e, h), s => exact k f e h s
def toRet (Q : D → Hd → Prop) (E : Exn → Hd → Prop) : Fl → Env → Hd → Prop
  | .nx, _, h => Q .non h
  | .ret d, _, h => Q d h
  | .exc x, _, h => E x h
  | _, _, _ => False
@[simp] theorem toRet_nx (e : Env) : toRet Q' E .nx e h = Q' .non h := rfl
@[simp] theorem toRet_ret (e : Env) : toRet Q' E (.ret d) e h = Q' d h := rfl
@[simp] theorem toRet_exc (e : Env) (x : Exn) : toRet Q' E (.exc x) e h = E x h := rfl
@[simp] theorem sat_run (n : Nat) (s : MS) (ds : List D) : Sat (runB n s ds h) Q' E = SatS (s (startE n ds) h) (toRet Q' E) := by
  unfold runB
  cases s (startE n ds) h with
  | none => rfl
  | some q => obtain ⟨fl, e, h⟩ := q; cases fl <;> rfl
def toSeq (b : MS) (S : Fl → Env → Hd → Prop) : Fl → Env → Hd → Prop
  | .nx, e, h => SatS (b e h) S
  | fl, e, h => S fl e h
@[simp] theorem toSeq_nx (b : MS) (e : Env) : toSeq b S .nx e h = SatS (b e h) S := rfl
@[simp] theorem toSeq_ret (b : MS) (e : Env) : toSeq b S (.ret d) e h = S (.ret d) e h := rfl
@[simp] theorem toSeq_exc (b : MS) (e : Env) (x : Exn) : toSeq b S (.exc x) e h = S (.exc x) e h := rfl
@[simp] theorem toSeq_bk (b : MS) (e : Env) : toSeq b S .bk e h = S .bk e h := rfl
@[simp] theorem toSeq_ct (b : MS) (e : Env) : toSeq b S .ct e h = S .ct e h := rfl
@[simp] theorem satS_seq (s t : MS) : SatS (sSeq s t env h) S = SatS (s env h) (toSeq t S) := by
  unfold sSeq
  cases s env h with
  | none => rfl
  | some q => obtain ⟨fl, e, h⟩ := q; cases fl <;> rfl
@[simp] theorem satS_pass : SatS (sPass env h) S = S .nx env h := rfl
@[simp] theorem satS_brk : SatS (sBrk env h) S = S .bk env h := rfl
@[simp] theorem satS_cnt : SatS (sCnt env h) S = S .ct env h := rfl
@[simp] theorem satS_expr (a : M D) : SatS (sExpr a env h) S = Sat (a env h) (fun _ h => S .nx env h) (fun x h => S (.exc x) env h) := by
  unfold sExpr ofE; cases a env h <;> rfl
@[simp] theorem satS_ret (a : M D) : SatS (sRet a env h) S = Sat (a env h) (fun d h => S (.ret d) env h) (fun x h => S (.exc x) env h) := by
  unfold sRet ofE; cases a env h <;> rfl
@[simp] theorem satS_retN : SatS (sRetN env h) S = S (.ret .non) env h := rfl
@[simp] theorem satS_asg (a : M D) (g : MG) : SatS (sAsg a g env h) S = Sat (a env h) (fun d h => SatO (g d env h) fun r => S .nx r.1 r.2) (fun x h => S (.exc x) env h) := by
  unfold sAsg ofE
  cases a env h with
  | ok d h => cases hg : g d env h with
    | none => simp only [hg, sat_ok]; rfl
    | some r => obtain ⟨e, h2⟩ := r; simp only [hg, sat_ok]; rfl
  | exc x h => rfl
  | bad => rfl
@[simp] theorem satS_if (c : M Bool) (s t : MS) : SatS (sIf c s t env h) S = Sat (c env h) (fun k h => SatS (if k then s env h else t env h) S) (fun x h => S (.exc x) env h) := by
  unfold sIf ofT; cases c env h <;> rfl
@[simp] theorem satS_for (it : MI) (g : MG) (body : MS) : SatS (sFor it g body env h) S = Sat (it env h) (fun items h => SatS (forLoop g body items env h) S) (fun x h => S (.exc x) env h) := by
  unfold sFor; cases it env h <;> rfl
@[simp] theorem sat_comp (own : List Nat) (it : MI) (g : MG) (cond : M Bool) (elt : M D) : Sat (mcomp m own it g cond elt env h) Q' E = Sat (it env h) (fun items h1 => SatO (compLoop g cond elt (wipeE env own) items [] h1) fun r => Sat (fin m (some (.new r.1)) r.2) Q' E) E := by
  rw [mcomp_at, sat_bind]
  congr 1
  funext items h1
  cases compLoop g cond elt (wipeE env own) items [] h1 with
  | none => rfl
  | some r => obtain ⟨acc, h2⟩ := r; rfl
@[simp] theorem satS_par2 (i j : Nat) (as : M (List D)) : SatS (sPar2 i j as env h) S = Sat (as env h) (fun ds h => match ds with | [v, w] => S .nx ((env.set i (some v)).set j (some w)) h | _ => False) (fun x h => S (.exc x) env h) := by
  unfold sPar2
  cases as env h with
  | bad => rfl
  | exc x h => rfl
  | ok ds h => match ds with
    | [] => rfl
    | [_] => rfl
    | [v, w] => rfl
    | _ :: _ :: _ :: _ => rfl
@[simp] theorem satS_par3 (i j l : Nat) (as : M (List D)) : SatS (sPar3 i j l as env h) S = Sat (as env h) (fun ds h => match ds with | [v, w, u] => S .nx (((env.set i (some v)).set j (some w)).set l (some u)) h | _ => False) (fun x h => S (.exc x) env h) := by
  unfold sPar3
  cases as env h with
  | bad => rfl
  | exc x h => rfl
  | ok ds h => match ds with
    | [] => rfl
    | [_] => rfl
    | [_, _] => rfl
    | [v, w, u] => rfl
    | _ :: _ :: _ :: _ :: _ => rfl
@[simp] theorem sat_ite {c : Prop} [Decidable c] (r : Res α) : Sat (if c then r else .bad) Q E = (c ∧ Sat r Q E) := by
  by_cases hc : c
  · rw [if_pos hc]; simp [hc]
  · rw [if_neg hc]; simp [hc]
@[simp] theorem fin_ite {c : Prop} [Decidable c] (o : Option OV) : fin m (if c then o else none) h = if c then fin m o h else .bad := by split <;> rfl
@[simp] theorem mdisp_at (l : List (M D × M D)) : mdisp m l env h = (mpairs l env h).bind fun xs h1 => finD m (if xs.length ≤ 15 then (keysP xs).map (mergeP []) else none) h1 := rfl
@[simp] theorem mpairs_nil : mpairs [] env h = .ok [] h := rfl
@[simp] theorem mpairs_cons (a b : M D) (r : List (M D × M D)) : mpairs ((a, b) :: r) env h = (a env h).bind fun x h1 => (b env h1).bind fun y h2 => (mpairs r env h2).bind fun xs h3 => .ok ((x, y) :: xs) h3 := rfl
@[simp] theorem mixd_at (o e : M D) : mixd o e env h = (o env h).bind fun d h1 => (e env h1).bind fun k h2 => match dicOf d h2, keyOf k with
  | some (ks, xs), some q => (match valD ks xs q with | some x => .ok x h2 | none => .bad)
  | _, _ => fin false (oIx d k h2) h2 := rfl
@[simp] theorem mget2_at (o e f : M D) : mget2 o e f env h = (o env h).bind fun d h1 => match dicOf d h1 with
  | none => .bad
  | some _ => (e env h1).bind fun k h2 => (f env h2).bind fun x h3 => match dicOf d h3, keyOf k with
    | some (ks, xs), some q => .ok ((valD ks xs q).getD x) h3
    | _, _ => .bad := rfl
@[simp] theorem mdict_at (a : M D) : mdict m a env h = (a env h).bind fun x h1 => finD m (fDict x h1) h1 := rfl
@[simp] theorem mfz_at (a : M D) : mfz a env h = (a env h).bind fun x h1 => match x with
  | .ref n => (match h1[n]? with
    | some (.lst xs) => .ok (.lst xs) (h1.set n .dead)
    | some (.dic ks xs) => .ok (.dic ks xs) (h1.set n .dead)
    | some (.dct ks xs) => .ok (.dct ks xs) (h1.set n .dead)
    | _ => .bad)
  | _ => .bad := by
  unfold mfz
  rfl
@[simp] theorem mstar_at (a : M D) (r : M (List D)) : mstar a r env h = (a env h).bind fun x h1 => match seqOf x h1 with
  | some ys => (r env h1).bind fun xs h2 => .ok (ys ++ xs) h2
  | none => .bad := rfl
@[simp] theorem mdzip_at (a b : M D) : mdzip m a b env h = (a env h).bind fun x h1 => (b env h1).bind fun y h2 => finD m (match seqOf x h2, seqOf y h2 with
  | some xs, some ys => (zipP xs ys).map (mergeP [])
  | _, _ => none) h2 := rfl
end
/-- a loop that ends each turn plainly: J holds of the slots and the heap -/
theorem for_sat {g : MG} {body : MS} {J : Nat → Env → Hd → Prop} {S : Fl → Env → Hd → Prop} {xs : List D} {env : Env} {h : Hd} (j0 : J 0 env h)
    (step : ∀ k x e h, xs[k]? = some x → J k e h → SatO (g x e h) fun r => SatS (body r.1 r.2) fun fl e h => match fl with | .nx => J (k + 1) e h | .ct => J (k + 1) e h | .bk => S .nx e h | fl => S fl e h)
    (done : ∀ e h, J xs.length e h → S .nx e h) : SatS (forLoop g body xs env h) S := by
  suffices key : ∀ (r : List D) (k : Nat) (env : Env) (h : Hd), xs.drop k = r → k ≤ xs.length → J k env h → SatS (forLoop g body r env h) S from key xs 0 env h rfl (Nat.zero_le _) j0
  intro r
  induction r with
  | nil =>
    intro k env h hd hk hj
    have : k = xs.length := by
      have := congrArg List.length hd
      simp at this; omega
    subst this
    exact done env h hj
  | cons x r ih =>
    intro k env h hd hk hj
    have hx : xs[k]? = some x := by
      have := congrArg (·[0]?) hd
      simpa using this
    have hlt := (List.getElem?_eq_some_iff.mp hx).1
    have hs := step k x env h hx hj
    unfold forLoop
    cases hg : g x env h with
    | none => rw [hg] at hs; exact hs.elim
    | some r1 =>
      obtain ⟨e1, h1⟩ := r1
      rw [hg, satO_some] at hs
      simp only at hs ⊢
      have hd' : xs.drop (k + 1) = r := by rw [← List.drop_drop, hd]; rfl
      cases hb : body e1 h1 with
      | none => rw [hb] at hs; exact hs.elim
      | some r2 =>
        obtain ⟨fl, e2, h2⟩ := r2
        rw [hb, satS_some] at hs
        cases fl with
        | nx => exact ih (k + 1) e2 h2 hd' hlt hs
        | ct => exact ih (k + 1) e2 h2 hd' hlt hs
        | bk => exact hs
        | ret d => exact hs
        | exc x => exact hs
end EV
namespace EV
open PySem PySem.Spec PyProof.Rows L2
def NoQ (w l : List Nat) : Prop := ∀ p s, l ≠ p ++ (39 :: (w ++ 39 :: s))
theorem NoQ.cons {w l : List Nat} {c : Nat} (h : NoQ w l) (hc : c ≠ 39) : NoQ w (c :: l) := fun p s e => by
  cases p with
  | nil => exact hc (List.cons.inj e).1
  | cons d p => exact h p s (List.cons.inj e).2
theorem NoQ.snoc {w l : List Nat} {c : Nat} (h : NoQ w l) (hc : c ≠ 39) : NoQ w (l ++ [c]) := fun p s e => by
  rcases List.eq_nil_or_concat s with rfl | ⟨s', d, rfl⟩
  · have e' : l ++ [c] = (p ++ 39 :: w) ++ [39] := by rw [e]; simp
    have e2 : [c] = [39] := (List.append_inj' e' rfl).2
    exact hc (List.cons.inj e2).1
  · have e' : l ++ [c] = (p ++ (39 :: (w ++ 39 :: s'))) ++ [d] := by rw [e]; simp
    exact h p s' (List.append_inj' e' rfl).1
theorem NoQ.none {w l : List Nat} (h : 39 ∉ l) : NoQ w l := fun p s e => h (by rw [e]; simp)
theorem NoQ.sep {w x y : List Nat} (hx : NoQ w x) (hy : NoQ w y) (hw : 44 ∉ w) : NoQ w (x ++ (44 :: 32 :: y)) := fun p s e => by
  have e' : x ++ (44 :: 32 :: y) = p ++ ((39 :: (w ++ [39])) ++ s) := by rw [e]; simp
  rcases List.append_eq_append_iff.mp e' with ⟨a, rfl, ea⟩ | ⟨c, rfl, ec⟩
  · match a, ea with
    | [], ea => simp at ea
    | [b], ea => simp at ea
    | b :: b' :: a, ea =>
      simp at ea
      exact hy a s (by rw [ea.2.2])
  · rcases List.append_eq_append_iff.mp ec with ⟨a, ea, _⟩ | ⟨b, eb, es⟩
    · exact hx p a (by rw [ea]; simp)
    · cases b with
      | nil =>
        have : c = 39 :: (w ++ [39]) := by simpa using eb.symm
        exact hx p [] (by rw [this])
      | cons d b =>
        have hd : 44 = d := by simp at es; exact es.1
        subst hd
        have : 44 ∈ (39 :: (w ++ [39])) := by rw [eb]; simp
        simp at this
        exact hw this
theorem NoQ.join {w : List Nat} (hw : 44 ∉ w) : ∀ {ts : List Str}, (∀ t ∈ ts, NoQ w t.cps.toList) → NoQ w (Str.join ", " ts).cps.toList
  | [], _ => NoQ.none (by decide)
  | [x], h => h x List.mem_cons_self
  | x :: y :: r, h => by
    have ih := NoQ.join hw (ts := y :: r) fun t ht => h t (List.mem_cons_of_mem _ ht)
    have hx := h x List.mem_cons_self
    have e : (Str.join ", " (x :: y :: r)).cps.toList = x.cps.toList ++ (44 :: 32 :: (Str.join ", " (y :: r)).cps.toList) := by
      show ((x ++ (", " : Str)) ++ Str.join ", " (y :: r)).cps.toList = _
      have e1 : ∀ a b : Str, (a ++ b).cps.toList = a.cps.toList ++ b.cps.toList := fun a b => Array.toList_append
      rw [e1, e1, List.append_assoc]
      rfl
    rw [e]
    exact hx.sep ih hw
theorem NoQ.tuple {w : List Nat} (hw : 44 ∉ w) {ts : List Str} (h : ∀ t ∈ ts, NoQ w t.cps.toList) : NoQ w (tupleText ts).cps.toList := by
  have e1 : ∀ a b : Str, (a ++ b).cps.toList = a.cps.toList ++ b.cps.toList := fun a b => Array.toList_append
  have j := NoQ.join hw h
  unfold tupleText
  rw [e1, e1]
  split
  · have e2 : (Str.ofString ",)").cps.toList = [44, 41] := rfl
    have e3 : (Str.ofString "(").cps.toList = [40] := rfl
    rw [e2, e3]
    have : [40] ++ (Str.join ", " ts).cps.toList ++ [44, 41] = (40 :: (Str.join ", " ts).cps.toList ++ [44]) ++ [41] := by simp
    rw [this]
    exact ((j.cons (by decide)).snoc (by decide)).snoc (by decide)
  · have e2 : (Str.ofString ")").cps.toList = [41] := rfl
    have e3 : (Str.ofString "(").cps.toList = [40] := rfl
    rw [e2, e3]
    exact (j.cons (by decide)).snoc (by decide)
theorem NoQ.from_ {w : List Nat} (hw : 44 ∉ w) : ∀ {ts : List Str} {k : Nat} {acc : Str}, NoQ w acc.cps.toList → (∀ t ∈ ts, NoQ w t.cps.toList) → NoQ w (textFrom (k + 1) acc ts).cps.toList
  | [], _, _, ha, _ => ha
  | t :: r, k, acc, ha, h => by
    have e1 : ∀ a b : Str, (a ++ b).cps.toList = a.cps.toList ++ b.cps.toList := fun a b => Array.toList_append
    refine NoQ.from_ (k := k + 1) hw ?_ fun t ht => h t (List.mem_cons_of_mem _ ht)
    rw [if_pos (Nat.succ_pos k), e1, e1]
    have e2 : (Str.ofString ", ").cps.toList = [44, 32] := rfl
    rw [e2, List.append_assoc]
    exact ha.sep (h t List.mem_cons_self) hw
theorem NoQ.list {w : List Nat} (hw : 44 ∉ w) {ts : List Str} (h : ∀ t ∈ ts, NoQ w t.cps.toList) : NoQ w (listText ts).cps.toList := by
  have e1 : ∀ a b : Str, (a ++ b).cps.toList = a.cps.toList ++ b.cps.toList := fun a b => Array.toList_append
  have e3 : (Str.ofString "]").cps.toList = [93] := rfl
  unfold listText
  rw [e1, e3]
  refine NoQ.snoc ?_ (by decide)
  cases ts with
  | nil => exact NoQ.none (by decide +kernel)
  | cons t r =>
    refine NoQ.from_ (k := 0) hw ?_ fun t ht => h t (List.mem_cons_of_mem _ ht)
    rw [if_neg (by decide), e1, e1]
    have e2 : (Str.ofString "").cps.toList = [] := rfl
    have e4 : (Str.ofString "[").cps.toList = [91] := rfl
    rw [e2, e4]
    exact (h t List.mem_cons_self).cons (by decide)
/-- letters -/
def Let_ (z : Str) : Prop := ∀ c ∈ z.cps.toList, 65 ≤ c ∧ c ≤ 122 ∧ c ≠ 92
mutual
def szD : D → Nat
  | .str _ => 10
  | .int _ => 60
  | .bl _ => 5
  | .non => 4
  | .tup xs => szL xs + 3
  | .lst xs => szL xs + 3
  | _ => 0
def szL : List D → Nat
  | [] => 0
  | x :: xs => szD x + 2 + szL xs
end
mutual
def dpD : D → Nat
  | .tup xs => dpL xs + 1
  | .lst xs => dpL xs + 1
  | _ => 0
def dpL : List D → Nat
  | [] => 0
  | x :: xs => max (dpD x) (dpL xs)
end
/-- an int whose text is short and has no quote in it -/
def intOk (i : Int) : Bool := decide (i.natAbs.log2 < 1920) && (decide ((toString i : Str).length ≤ 60) && (!(toString i : Str).cps.toList.contains 39))
mutual
/-- texts are of letters, at most eight, none of them is of Av; ints are short -/
def PlD (Av : List Str) : D → Prop
  | .str z => Let_ z ∧ z.length ≤ 8 ∧ z ∉ Av
  | .int i => intOk i = true
  | .bl _ => True
  | .non => True
  | .tup xs => PlL Av xs
  | .lst xs => PlL Av xs
  | _ => False
def PlL (Av : List Str) : List D → Prop
  | [] => True
  | x :: xs => PlD Av x ∧ PlL Av xs
end
theorem plL_of {Av : List Str} : ∀ {xs : List D}, (∀ x ∈ xs, PlD Av x) → PlL Av xs
  | [], _ => by simp [PlL]
  | x :: xs, h => by
    simp only [PlL]
    exact ⟨h x List.mem_cons_self, plL_of fun y hy => h y (List.mem_cons_of_mem _ hy)⟩
def Low (z : Str) : Prop := (1 ≤ z.length ∧ z.length ≤ 8) ∧ ∀ c ∈ z.cps.toList, 97 ≤ c ∧ c ≤ 122
def Upp (z : Str) : Prop := (1 ≤ z.length ∧ z.length ≤ 4) ∧ ∀ c ∈ z.cps.toList, 65 ≤ c ∧ c ≤ 90
def Fit (z : Str) : Prop := Low z ∨ Upp z
theorem Low.let_ {z : Str} (h : Low z) : Let_ z := fun c hc => by have := h.2 c hc; omega
theorem Upp.let_ {z : Str} (h : Upp z) : Let_ z := fun c hc => by have := h.2 c hc; omega
theorem Fit.let_ {z : Str} (h : Fit z) : Let_ z := h.elim Low.let_ Upp.let_
theorem Fit.len {z : Str} (h : Fit z) : z.length ≤ 8 := h.elim (fun h => h.1.2) fun h => by have := h.1.2; omega
theorem Low.ne {z w : Str} (h : Low z) (g : Upp w) : z ≠ w := fun e => by
  subst e
  have h1 : 0 < z.cps.toList.length := by
    have : 1 ≤ z.cps.size := h.1.1
    rw [Array.length_toList]; omega
  have := h.2 _ (List.getElem_mem h1)
  have := g.2 _ (List.getElem_mem h1)
  omega
def lowB (z : Str) : Bool := decide (1 ≤ z.length) && (decide (z.length ≤ 8) && z.cps.toList.all fun c => decide (97 ≤ c) && decide (c ≤ 122))
theorem low_of {z : Str} (h : lowB z = true) : Low z := by
  unfold lowB at h
  simp only [Bool.and_eq_true, decide_eq_true_eq, List.all_eq_true] at h
  exact ⟨⟨h.1, h.2.1⟩, h.2.2⟩
def pathD (s : Str) (ws : List Str) : D := .tup (.str s :: ws.map .str)
def opS : Nat → Str
  | 0 => "add"
  | 1 => "sub"
  | _ => "if"
inductive Tm where
  | num (i : Int)
  | ref (s : Str) (ws : List Str)
  | op (k : Nat) (ts : List Tm)
mutual
def Tm.d : Tm → D
  | .num i => .tup [.str "num", .int i]
  | .ref s ws => .tup [.str "ref", pathD s ws]
  | .op k ts => .tup (.str (opS k) :: Tm.ds ts)
def Tm.ds : List Tm → List D
  | [] => []
  | t :: ts => t.d :: Tm.ds ts
end
theorem Tm.ds_map : ∀ ts : List Tm, Tm.ds ts = ts.map Tm.d
  | [] => rfl
  | t :: ts => by rw [Tm.ds, Tm.ds_map ts]; rfl
inductive It where
  | gap
  | fn (w : Str) (t : Tm) (b : Bool)
  | use (w s : Str) (ws : List Str) (b : Bool)
  | glob (s : Str) (ws : List Str) (b : Bool)
  | call (s : Str) (ws as : List Str)
  | mod (w : Str) (body : List It) (b : Bool)
  | mac (w : Str) (ps : List Str) (body : List It) (b : Bool)
mutual
def It.d : It → D
  | .gap => .tup [.str "gap"]
  | .fn w t b => .tup [.str "fn", .str w, t.d, .bl b]
  | .use w s ws b => .tup [.str "use", .str w, pathD s ws, .bl b]
  | .glob s ws b => .tup [.str "glob", pathD s ws, .bl b]
  | .call s ws as => .tup [.str "call", pathD s ws, .tup (as.map .str)]
  | .mod w body b => .tup [.str "mod", .str w, .tup (It.ds body), .bl b]
  | .mac w ps body b => .tup [.str "macro", .str w, .tup (ps.map .str), .tup (It.ds body), .bl b]
def It.ds : List It → List D
  | [] => []
  | t :: ts => t.d :: It.ds ts
end
theorem It.ds_map : ∀ ts : List It, It.ds ts = ts.map It.d
  | [] => rfl
  | t :: ts => by rw [It.ds, It.ds_map ts]; rfl
/-- an expression at most n deep, of words that fit -/
def Tm.Ok : Nat → Tm → Prop
  | 0, _ => False
  | _ + 1, .num i => intOk i = true
  | _ + 1, .ref s ws => Low s ∧ ws.length ≤ 6 ∧ ∀ w ∈ ws, Fit w
  | n + 1, .op _ ts => ts.length ≤ 3 ∧ ∀ t ∈ ts, Tm.Ok n t
/-- an item with at most n bodies inside of one another; m: how many items there are at most in a body -/
def It.Ok (m : Nat) : Nat → It → Prop
  | _, .gap => True
  | _, .fn w t _ => Fit w ∧ t.Ok 5
  | _, .use w s ws _ => Fit w ∧ Low s ∧ ws.length ≤ 6 ∧ ∀ w ∈ ws, Fit w
  | _, .glob s ws _ => Low s ∧ ws.length ≤ 6 ∧ ∀ w ∈ ws, Fit w
  | _, .call s ws as => (Low s ∧ ws.length ≤ 6 ∧ ∀ w ∈ ws, Fit w) ∧ as.length ≤ 3 ∧ ∀ w ∈ as, Fit w
  | 0, .mod _ _ _ => False
  | n + 1, .mod w body _ => Fit w ∧ body.length ≤ m ∧ ∀ i ∈ body, It.Ok m n i
  | 0, .mac _ _ _ _ => False
  | n + 1, .mac w ps body _ => Fit w ∧ (ps.length ≤ 5 ∧ ∀ p ∈ ps, Upp p) ∧ body.length ≤ m ∧ ∀ i ∈ body, It.Ok m n i
/-- the parameters of macros are none of own, and none of those around them -/
def It.Good : Nat → List Str → It → Prop
  | n + 1, own, .mod _ body _ => ∀ i ∈ body, It.Good n own i
  | n + 1, own, .mac _ ps body _ => (∀ p ∈ ps, p ∉ own) ∧ ∀ i ∈ body, It.Good n (own ++ ps) i
  | _, _, _ => True
theorem opS_low (k : Nat) : Low (opS k) := by
  match k with
  | 0 => exact low_of (by decide +kernel)
  | 1 => exact low_of (by decide +kernel)
  | k + 2 => exact low_of (show lowB "if" = true by decide +kernel)
theorem It.Good.sub : ∀ {n : Nat} {own own' : List Str} {t : It}, t.Good n own → (∀ p ∈ own', p ∈ own) → t.Good n own'
  | _, _, _, .gap, _, _ => by simp [It.Good]
  | _, _, _, .fn _ _ _, _, _ => by simp [It.Good]
  | _, _, _, .use _ _ _ _, _, _ => by simp [It.Good]
  | _, _, _, .glob _ _ _, _, _ => by simp [It.Good]
  | _, _, _, .call _ _ _, _, _ => by simp [It.Good]
  | 0, _, _, .mod _ _ _, _, _ => by simp [It.Good]
  | n + 1, own, own', .mod w body b, h, s => by
    simp only [It.Good] at h ⊢
    exact fun i hi => (h i hi).sub s
  | 0, _, _, .mac _ _ _ _, _, _ => by simp [It.Good]
  | n + 1, own, own', .mac w ps body b, h, s => by
    simp only [It.Good] at h ⊢
    exact ⟨fun p hp z => h.1 p hp (s p z), fun i hi => (h.2 i hi).sub fun p hp => by
      rcases List.mem_append.mp hp with hp | hp
      · exact List.mem_append_left _ (s p hp)
      · exact List.mem_append_right _ hp⟩
theorem str_pl {Av : List Str} {z : Str} (h : Fit z) (ha : z ∉ Av) : PlD Av (.str z) := by simp only [PlD]; exact ⟨h.let_, h.len, ha⟩
theorem low_pl {Av : List Str} (hav : ∀ w ∈ Av, Upp w) {z : Str} (h : Low z) : PlD Av (.str z) := str_pl (.inl h) fun hm => h.ne (hav z hm) rfl
theorem strs_pl {Av : List Str} {zs : List Str} (h : ∀ z ∈ zs, Fit z) (ha : ∀ z ∈ zs, z ∉ Av) : PlL Av (zs.map .str) := plL_of fun x hx => by
  obtain ⟨z, hz, rfl⟩ := List.mem_map.mp hx
  exact str_pl (h z hz) (ha z hz)
theorem path_pl {Av : List Str} (hav : ∀ w ∈ Av, Upp w) {s : Str} {ws : List Str} (h : Low s) (hw : ∀ w ∈ ws, Fit w) (ha : ∀ w ∈ ws, w ∉ Av) : PlD Av (pathD s ws) := by
  simp only [pathD, PlD, PlL]
  exact ⟨by have := low_pl hav h; simpa only [PlD] using this, strs_pl hw ha⟩
/-- words that are none of Av -/
def Tm.Av (Av : List Str) : Nat → Tm → Prop
  | 0, _ => True
  | _ + 1, .num _ => True
  | _ + 1, .ref _ ws => ∀ w ∈ ws, w ∉ Av
  | n + 1, .op _ ts => ∀ t ∈ ts, Tm.Av Av n t
theorem Tm.pl {Av : List Str} (hav : ∀ w ∈ Av, Upp w) : ∀ {n : Nat} {t : Tm}, t.Ok n → t.Av Av n → PlD Av t.d
  | n + 1, .num i, h, _ => by
    simp only [Tm.d, PlD, PlL]
    exact ⟨by have := low_pl hav (z := "num") (low_of (by decide +kernel)); simpa only [PlD] using this, h, trivial⟩
  | n + 1, .ref s ws, h, a => by
    simp only [Tm.Ok, Tm.Av] at h a
    simp only [Tm.d, PlD, PlL]
    exact ⟨by have := low_pl hav (z := "ref") (low_of (by decide +kernel)); simpa only [PlD] using this, path_pl hav h.1 h.2.2 a, trivial⟩
  | n + 1, .op k ts, h, a => by
    simp only [Tm.Ok, Tm.Av] at h a
    simp only [Tm.d, PlD, PlL, Tm.ds_map]
    refine ⟨by have := low_pl hav (opS_low k); simpa only [PlD] using this, plL_of fun x hx => ?_⟩
    obtain ⟨t, ht, rfl⟩ := List.mem_map.mp hx
    exact Tm.pl hav (h.2 t ht) (a t ht)
def It.Av (Av : List Str) : Nat → It → Prop
  | _, .gap => True
  | _, .fn w t _ => w ∉ Av ∧ t.Av Av 5
  | _, .use w _ ws _ => w ∉ Av ∧ ∀ w ∈ ws, w ∉ Av
  | _, .glob _ ws _ => ∀ w ∈ ws, w ∉ Av
  | _, .call _ ws as => (∀ w ∈ ws, w ∉ Av) ∧ ∀ w ∈ as, w ∉ Av
  | 0, _ => True
  | n + 1, .mod w body _ => w ∉ Av ∧ ∀ i ∈ body, It.Av Av n i
  | n + 1, .mac w ps body _ => w ∉ Av ∧ (∀ p ∈ ps, p ∉ Av) ∧ ∀ i ∈ body, It.Av Av n i
theorem It.pl {Av : List Str} (hav : ∀ w ∈ Av, Upp w) {m : Nat} : ∀ {n : Nat} {t : It}, t.Ok m n → t.Av Av n → PlD Av t.d := by
  have L : ∀ z : Str, lowB z = true → PlD Av (.str z) := fun z h => low_pl hav (low_of h)
  intro n
  induction n with
  | zero =>
    intro t h a
    cases t with
    | gap => simp only [It.d]; rw [PlD]; exact plL_of fun x hx => by rw [List.mem_singleton.mp hx]; exact L _ (by decide +kernel)
    | fn w t b =>
      simp only [It.Ok, It.Av] at h a
      simp only [It.d]; rw [PlD]; simp only [PlL]
      exact ⟨L _ (by decide +kernel), str_pl h.1 a.1, Tm.pl hav h.2 a.2, by simp only [PlD], trivial⟩
    | use w s ws b =>
      simp only [It.Ok, It.Av] at h a
      simp only [It.d]; rw [PlD]; simp only [PlL]
      exact ⟨L _ (by decide +kernel), str_pl h.1 a.1, path_pl hav h.2.1 h.2.2.2 a.2, by simp only [PlD], trivial⟩
    | glob s ws b =>
      simp only [It.Ok, It.Av] at h a
      simp only [It.d]; rw [PlD]; simp only [PlL]
      exact ⟨L _ (by decide +kernel), path_pl hav h.1 h.2.2 a, by simp only [PlD], trivial⟩
    | call s ws as =>
      simp only [It.Ok, It.Av] at h a
      simp only [It.d]; rw [PlD]; simp only [PlL]
      exact ⟨L _ (by decide +kernel), path_pl hav h.1.1 h.1.2.2 a.1, by simp only [PlD]; exact strs_pl h.2.2 a.2, trivial⟩
    | mod w body b => simp [It.Ok] at h
    | mac w ps body b => simp [It.Ok] at h
  | succ n ih =>
    intro t h a
    cases t with
    | gap => simp only [It.d]; rw [PlD]; exact plL_of fun x hx => by rw [List.mem_singleton.mp hx]; exact L _ (by decide +kernel)
    | fn w t b =>
      simp only [It.Ok, It.Av] at h a
      simp only [It.d]; rw [PlD]; simp only [PlL]
      exact ⟨L _ (by decide +kernel), str_pl h.1 a.1, Tm.pl hav h.2 a.2, by simp only [PlD], trivial⟩
    | use w s ws b =>
      simp only [It.Ok, It.Av] at h a
      simp only [It.d]; rw [PlD]; simp only [PlL]
      exact ⟨L _ (by decide +kernel), str_pl h.1 a.1, path_pl hav h.2.1 h.2.2.2 a.2, by simp only [PlD], trivial⟩
    | glob s ws b =>
      simp only [It.Ok, It.Av] at h a
      simp only [It.d]; rw [PlD]; simp only [PlL]
      exact ⟨L _ (by decide +kernel), path_pl hav h.1 h.2.2 a, by simp only [PlD], trivial⟩
    | call s ws as =>
      simp only [It.Ok, It.Av] at h a
      simp only [It.d]; rw [PlD]; simp only [PlL]
      exact ⟨L _ (by decide +kernel), path_pl hav h.1.1 h.1.2.2 a.1, by simp only [PlD]; exact strs_pl h.2.2 a.2, trivial⟩
    | mod w body b =>
      simp only [It.Ok, It.Av] at h a
      simp only [It.d, It.ds_map]; rw [PlD]; simp only [PlL]
      refine ⟨L _ (by decide +kernel), str_pl h.1 a.1, ?_, by simp only [PlD], trivial⟩
      rw [PlD]
      exact plL_of fun x hx => by
        obtain ⟨t, ht, rfl⟩ := List.mem_map.mp hx
        exact ih (h.2.2 t ht) (a.2 t ht)
    | mac w ps body b =>
      simp only [It.Ok, It.Av] at h a
      simp only [It.d, It.ds_map]; rw [PlD]; simp only [PlL]
      refine ⟨L _ (by decide +kernel), str_pl h.1 a.1, ?_, ?_, by simp only [PlD], trivial⟩
      · rw [PlD]; exact strs_pl (fun p hp => .inr (h.2.1.2 p hp)) a.2.1
      · rw [PlD]
        exact plL_of fun x hx => by
          obtain ⟨t, ht, rfl⟩ := List.mem_map.mp hx
          exact ih (h.2.2.2 t ht) (a.2.2 t ht)
end EV
namespace RP
open PySem
/-- an item goes through «yield from» over the generator at a; nobody is told of it -/
def Mild (s : Shared) (t : Thread) : Prop :=
  ∃ (v : Value) (g : Bool) (l : List Value) (k : Resume → Sem PySem.Fin) (a : Addr) (r : List Value) (kw : List (Str × Value)), t.cur = .yield v g l k ∧ t.code = .builtin "proto.yield_from" ⟨.ref a :: r, kw⟩ ∧
    (∃ o, s.heap.get? a = some o ∧ o.genNumber?.isSome = true) ∧ ∀ fs b rest, splitAtGen t.stack = some (fs, b, rest) → fs.any Frame.guarded = false
def Fine (s : Shared) (t : Thread) : Prop := t.calm = true ∨ Mild s t
inductive Gets (M : Model) (base : List Frame) : Shared → Sem PySem.Fin → Code → Pos → List Frame → Shared → End → Prop
  | here {s t c p pre e} : Exits e t c p pre → Gets M base s t c p pre s e
  | next {s t c p pre s₁ t₁ c₁ p₁ pre₁ s' e} : Fine s ⟨t, c, p, pre ++ base⟩ → stepK M.den M.prog M.w s ⟨t, c, p, pre ++ base⟩ = .go s₁ ⟨t₁, c₁, p₁, pre₁ ++ base⟩ → Gets M base s₁ t₁ c₁ p₁ pre₁ s' e → Gets M base s t c p pre s' e
theorem step_calm {M : Model} {s s' : Shared} {t t' : Thread} (h : M.step s t = .go s' t') : t.calm = true ∧ stepK M.den M.prog M.w s t = .go s' t' := by
  cases hl : t.loud with
  | true => rw [M.step_loud hl] at h; cases h
  | false =>
    rw [M.step_quiet hl] at h
    refine ⟨?_, h⟩
    rw [Thread.calm_eq, hl]
    cases hr : t.refused with
    | false => rfl
    | true =>
      obtain ⟨what, e⟩ := stepK_refused M.den M.prog M.w (s := s) hr
      rw [e] at h; cases h
theorem Gets.quiet {M : Model} {base pre pre₁ : List Frame} {s s₁ s' : Shared} {t t₁ : Sem PySem.Fin} {c c₁ : Code} {p p₁ : Pos} {e : End} (h : M.step s ⟨t, c, p, pre ++ base⟩ = .go s₁ ⟨t₁, c₁, p₁, pre₁ ++ base⟩) (r : Gets M base s₁ t₁ c₁ p₁ pre₁ s' e) : Gets M base s t c p pre s' e :=
  .next (.inl (step_calm h).1) (step_calm h).2 r
theorem Gets.of {M : Model} {base pre : List Frame} {s s' : Shared} {t : Sem PySem.Fin} {c : Code} {p : Pos} {e : End} (h : Reach M base s t c p pre s' e) : Gets M base s t c p pre s' e := by
  induction h with
  | exit hx => exact .here hx
  | step hs _ ih => exact .quiet hs ih
/-- behind it stands the program's run -/
theorem Gets.runs {M : Model} {base pre : List Frame} {s s' : Shared} {t : Sem PySem.Fin} {c : Code} {p : Pos} {e : End} (h : Gets M base s t c p pre s' e) :
    ∃ n t' c' p' pre', runNK M.den M.prog M.w n s ⟨t, c, p, pre ++ base⟩ = .running s' ⟨t', c', p', pre' ++ base⟩ ∧ Exits e t' c' p' pre' ∧ ∀ k s₁ t₁, k < n → runNK M.den M.prog M.w k s ⟨t, c, p, pre ++ base⟩ = .running s₁ t₁ → Fine s₁ t₁ := by
  induction h with
  | here hx => exact ⟨0, _, _, _, _, rfl, hx, fun k _ _ hk => absurd hk (Nat.not_lt_zero k)⟩
  | @next s t c p pre s₁ t₁ c₁ p₁ pre₁ s' e hf hs _ ih =>
    obtain ⟨n, t', c', p', pre', hn, hx, hk⟩ := ih
    refine ⟨n + 1, t', c', p', pre', by simp only [runNK, hs]; exact hn, hx, fun k s₂ t₂ hlt hr => ?_⟩
    cases k with
    | zero =>
      simp only [runNK] at hr
      injection hr with h1 h2
      subst h1 h2
      exact hf
    | succ k =>
      simp only [runNK, hs] at hr
      exact hk k s₂ t₂ (by omega) hr
end RP
namespace RP
open PySem
/-- an end that a generator's consumer may be given -/
def Told (e : End) (s : Shared) : Prop := e.quiet = true ∨ ∃ (v : Value) (g : Bool) (l : List Value) (k : Resume → Sem PySem.Fin) (a : Addr) (r : List Value) (kw : List (Str × Value)) (p : Pos) (fs : List Frame),
  e = .susp v g l k (.builtin "proto.yield_from" ⟨.ref a :: r, kw⟩) p fs ∧ fs.any Frame.guarded = false ∧ ∃ o, s.heap.get? a = some o ∧ o.genNumber?.isSome = true
def GetsC (M : Model) (Γ : Ctx) (p : Pos) (s : Shared) (r : Result) (s' : Shared) : Prop := ∀ base, Γ.Fits base → Gets M base s (M.den Γ.code) Γ.code p [] s' (.ret r)
def WakesP (M : Model) (Γ : Ctx) (p : Pos) (g : Nat) (r : Resume) (s : Shared) (res : GenResult) (s' : Shared) : Prop :=
  (∃ c e s₁, s.gens[g]? = some (.fresh c) ∧ r = .send .none ∧ (∀ base, (Γ.wake c p).Fits base → Gets M base (s.setGen g .running) (M.den c) c p [] s₁ e) ∧ Told e s₁ ∧ res = e.result ∧ s' = s₁.setGen g e.genState) ∨
  (∃ k₀ l₀ c₀ p₀ fs cl e s₁, s.gens[g]? = some (.suspended k₀ l₀ c₀ p₀ fs cl) ∧ (∀ base, (Γ.wake c₀ p).Fits base → Gets M base (s.setGen g .running) (k₀ r) c₀ p₀ fs s₁ e) ∧ Told e s₁ ∧ res = e.result ∧ s' = s₁.setGen g e.genState) ∨
  Wakes M Γ p g r s res s'
def wpP {α : Type} (M : Model) (Γ : Ctx) : Sem α → (α → Pos → Shared → Prop) → (Value → Pos → Shared → Prop) → Pos → Shared → Prop
  | .pure x, Q, _, p, s => Q x p s
  | .raise v, _, E, p, s => E v p s
  | .rule _ k, Q, E, p, s => wpP M Γ (k ()) Q E p s
  | .at q k, Q, E, _, s => wpP M Γ (k ()) Q E q s
  | .load a _ k, Q, E, p, s => ∃ o, s.heap.get? a = some o ∧ wpP M Γ (k o) Q E p s
  | .update a _ f k, Q, E, p, s => (s.heap.get? a).isSome ∧ wpP M Γ (k ()) Q E p { s with heap := s.heap.update a f }
  | .loadIfAlive a k, Q, E, p, s => wpP M Γ (k (s.heap.get? a)) Q E p s
  | .point _ k, Q, E, p, s => wpP M Γ (k ()) Q E p s
  | .alloc o k, Q, E, p, s => wpP M Γ (k s.heap.objs.size) Q E p { s with heap := s.heap.push o }
  | .fresh k, Q, E, p, s => wpP M Γ (k s.toks) Q E p { s with toks := s.toks + 1 }
  | .ask k, Q, E, p, s => wpP M Γ (k ⟨M.prog, M.w.params⟩) Q E p s
  | .choose src n k, Q, E, p, s => n ≠ 0 ∧ wpP M Γ (k (M.w.draws src (s.drawn.get src) % n)) Q E p { s with drawn := s.drawn.bump src }
  | .os q _ k, Q, E, p, s => wpP M Γ (k (Os.step s.os q).2) Q E p { s with os := (Os.step s.os q).1 }
  | .call c h _ _ k, Q, E, p, s => ∃ r s', GetsC M (Γ.enter c h p) p s r s' ∧ wpP M Γ (k r) Q E p s'
  | .handled own k, Q, E, p, s => wpP M Γ (k (if own then Γ.own else Γ.handled)) Q E p s
  | .genState g k, Q, E, p, s => ∃ st, s.gens[g]? = some st ∧ wpP M Γ (k st.seen) Q E p s
  | .newGen c k, Q, E, p, s => wpP M Γ (k s.gens.size) Q E p { s with gens := s.gens.push (.fresh c) }
  | .resume g r _ k, Q, E, p, s => ∃ res s', WakesP M Γ p g r s res s' ∧ wpP M Γ (k res) Q E p s'
  | .stack k, Q, E, p, s => wpP M Γ (k ((Γ.code, p) :: Γ.below)) Q E p s
  | .thread k, Q, E, p, s => wpP M Γ (k 0) Q E p s
  | _, _, _, _, _ => False
section
variable {α β : Type} {M : Model} {Γ : Ctx}
theorem getsC_of {p : Pos} {s s' : Shared} {r : Result} (h : Returns M Γ p s r s') : GetsC M Γ p s r s' := fun base hf => .of (runs_reach h base hf)
end
end RP
namespace RP
open PySem
def wpAnyP {α : Type} (M : Model) (A : Around) (t : Sem α) (Q : α → Shared → Prop) (E : Value → Shared → Prop) (s : Shared) : Prop :=
  ∀ Γ p, Γ.In A → wpP M Γ t (fun x _ s' => Q x s') (fun e _ s' => E e s') p s
def codeAnyP (M : Model) (A : Around) (c : Code) (R : Result → Shared → Prop) (s : Shared) : Prop :=
  ∀ Γ p, Γ.code = c → Γ.Below A → ∃ r s', GetsC M Γ p s r s' ∧ R r s'
section
variable {α β : Type} {M : Model} {A : Around} {E : Value → Shared → Prop} {s : Shared}
theorem code_of {c : Code} {R : Result → Shared → Prop} (h : codeAny M A c R s) : codeAnyP M A c R s := fun Γ p hc hΓ => let ⟨r, s', hr, q⟩ := h Γ p hc hΓ; ⟨r, s', getsC_of hr, q⟩
end
end RP
namespace RP
open PySem PySem.W PySem.Calls PyProof.Rows
end RP
namespace RP
open PySem PySem.Spec PyProof.Rows L2
structure PTP (X : Cx) (e : Expr) (t : TT) : Prop where
  run : ∀ (pins : List (Addr × Obj)) (s : Shared) (σ : L2.St) (H : Hp) (Q : Bool → Hp → Prop), Inv X pins σ H s → t σ H Q → wpAnyP (model X.prog X.w) X.A (isTrue e X.env (eval e X.env)) (TP X pins σ Q) X.xe s
end RP
namespace RP
open PySem PySem.Spec PyProof.Rows L2 GenW
/-- R n: the end, where n items more may come; Y n: an item, n more may come; L: what happens while it sleeps -/
structure Turns where
  R : Nat → Result → Shared → Prop
  Y : Nat → Value → Shared → Prop
  L : Value → Shared → Shared → Prop
def FlowP (M : Model) (A : Around) (T : Turns) : Nat → Code → Sem PySem.Fin → List Frame → Shared → Prop
  | 0 => fun c t fs s => ∀ (Γ : PySem.Ctx) (p : Pos), Γ.code = c → Γ.Woken A → ∃ e s', (∀ base, Γ.Fits base → Gets M base s t c p fs s' e) ∧ ∃ r, e = .ret r ∧ T.R 0 r s'
  | n + 1 => fun c t fs s => ∀ (Γ : PySem.Ctx) (p : Pos), Γ.code = c → Γ.Woken A → ∃ e s', (∀ base, Γ.Fits base → Gets M base s t c p fs s' e) ∧ ((∃ r, e = .ret r ∧ T.R (n + 1) r s') ∨
      ∃ v g l k c' p' fs', e = .susp v g l k c' p' fs' ∧ Told e s' ∧ T.Y n v s' ∧ ∀ s'', T.L v s' s'' → FlowP M A T n c' (k (.send .none)) fs' s'')
end RP
namespace RP
open PySem PySem.Spec PyProof.Rows L2 GenW
/-- a generator's object, nobody sleeps over it -/
def GenO (g : Nat) (o : Obj) : Prop := ∃ nm qn, o.cls = .type "generator" ∧ o.data = .fields #[.int g 0, nm, qn] ∧ (o.slots = #[] ∨ ∃ t, o.slots = #[some (.int 0 t)])
/-- how a consumer gathers: wt: how many values it notes for an item; top: how many in all; Is: what stands at its object, these noted; Kn: what an item must be for them to be noted -/
structure Kind where
  wt : Nat
  top : Nat
  Is : Addr → List V → Obj → Prop
  Kn : List V → List V → Value → Heap → Prop
  Kx : List V → List V → V → Hp → Prop
  pos : 0 < wt
  cell : ∀ (a : Addr) (ys : List V) (o : Obj), Is a ys o → ∀ v, o.data ≠ .cell v
  apart : ∀ (a : Addr) (ys : List V) (o : Obj), Is a ys o → cStatics ≠ a
  kn : ∀ (P : Program) (w : World) (H : Hp) (h : Heap) (ys l : List V) (x : V) (v : Value), HOk P w H h → RelV x v → Kx ys l x H → Kn ys l v h
  len : ∀ (ys l : List V) (x : V) (H : Hp), Kx ys l x H → l.length = wt
  keep : ∀ (ys l : List V) (v : Value) (h h' : Heap), (∀ b o, o.cls = .type "tuple" → h.get? b = some o → h'.get? b = some o) → Kn ys l v h → Kn ys l v h'
/-- where a generator runs: S: the list that gathers what is handed out; g: its number; as: its own object, then those of the generators that wait over it -/
structure Seat where
  S : Addr
  g : Nat
  as : List (Addr × Nat)
  kd : Kind
def Seat.sp (p : Seat) : List Addr := p.S :: p.as.map (·.1)
/-- while it sleeps: v has been gathered -/
structure SleptP (p : Seat) (v : Value) (s s' : Shared) : Prop where
  os : s'.os = s.os
  size : s.gens.size ≤ s'.gens.size
  bare : ∀ (j : Nat) (x : GenState), s'.gens[j]? = some x → s.gens[j]? = some x ∨ x.bare = true
  up : ∀ j : Nat, p.g < j → s'.gens[j]? = s.gens[j]?
  keep : ∀ b o, b ∉ p.sp → s.heap.get? b = some o → s'.heap.get? b = some o
  own : ∀ ys o, s.heap.get? p.S = some o → p.kd.Is p.S ys o → ∀ l, p.kd.Kn ys l v s.heap → ∃ o', s'.heap.get? p.S = some o' ∧ p.kd.Is p.S (ys ++ l) o'
  gen : ∀ q ∈ p.as, ∀ o, s.heap.get? q.1 = some o → GenO q.2 o → ∃ o', s'.heap.get? q.1 = some o' ∧ GenO q.2 o'
inductive GPins : List (Addr × Nat) → List (Addr × Obj) → Prop
  | nil : GPins [] []
  | cons {a g o as pl} (h : GenO g o) (r : GPins as pl) : GPins ((a, g) :: as) ((a, o) :: pl)
theorem GPins.mem {as : List (Addr × Nat)} {pl : List (Addr × Obj)} (h : GPins as pl) : ∀ q ∈ as, ∃ o, (q.1, o) ∈ pl ∧ GenO q.2 o := by
  induction h with
  | nil => intro q hq; cases hq
  | cons h r ih =>
    intro q hq
    rcases List.mem_cons.mp hq with rfl | hq
    · exact ⟨_, List.mem_cons_self, h⟩
    · obtain ⟨o, h1, h2⟩ := ih q hq
      exact ⟨o, List.mem_cons_of_mem _ h1, h2⟩
theorem GPins.make {P : Addr × Obj → Prop} : ∀ {as : List (Addr × Nat)}, (∀ q ∈ as, ∃ o, GenO q.2 o ∧ P (q.1, o)) → ∃ pl, GPins as pl ∧ ∀ p ∈ pl, P p
  | [], _ => ⟨[], .nil, fun p hp => nomatch hp⟩
  | (a, g) :: as, h => by
    obtain ⟨o, h1, h2⟩ := h (a, g) List.mem_cons_self
    obtain ⟨pl, h3, h4⟩ := GPins.make fun q hq => h q (List.mem_cons_of_mem _ hq)
    refine ⟨(a, o) :: pl, .cons h1 h3, fun p hp => ?_⟩
    rcases List.mem_cons.mp hp with rfl | hp
    · exact h2
    · exact h4 p hp
/-- running: ys is gathered; ip: its own iterators, as they stand -/
def GIP (X : Cx) (p : Seat) (ip : List (Addr × Obj)) (ys : List V) (σ : L2.St) (H : Hp) (s : Shared) : Prop :=
  ∃ (ob : Obj) (pl : List (Addr × Obj)), p.kd.Is p.S ys ob ∧ GPins p.as pl ∧ Inv X ((p.S, ob) :: (pl ++ ip)) σ H s
/-- what holds of the seat through the run -/
structure Sits (X : Cx) (p : Seat) : Prop where
  pn : X.pn = []
  ex : ∀ b ∈ p.sp, b ∈ X.ex ∨ X.s_0.heap.objs.size ≤ b
  loc : X.env.locals ∉ p.sp
  cel : ∀ x c, X.env.cells.lookup x = some c → c ∉ p.sp
  no : ∀ e s, X.xe e s → False
section
variable {X : Cx} {p : Seat} {ip : List (Addr × Obj)} {ys : List V} {σ : L2.St} {H : Hp} {s s' : Shared}
theorem GIP.sp (h : GIP X p ip ys σ H s) : ∀ b ∈ p.sp, H b = none ∧ b ∉ X.fs := by
  obtain ⟨ob, pl, r, gp, I⟩ := h
  intro b hb
  rcases List.mem_cons.mp hb with rfl | hb
  · obtain ⟨_, h2, _, h4, _⟩ := I.pin (p.S, ob) (List.mem_append_right _ List.mem_cons_self)
    exact ⟨h2, h4⟩
  · obtain ⟨q, hq, rfl⟩ := List.mem_map.mp hb
    obtain ⟨o, h1, h2⟩ := gp.mem q hq
    obtain ⟨_, h2, _, h4, _⟩ := I.pin (q.1, o) (List.mem_append_right _ (List.mem_cons_of_mem _ (List.mem_append_left _ h1)))
    exact ⟨h2, h4⟩
end
/-- an item is handed out here; n more may come -/
structure Gives (p : Seat) (n : Nat) (v : Value) (s : Shared) : Prop where
  size : p.g < s.gens.size
  lim : s.heap.NoLimit
  own : ∃ (ys l : List V) (ob : Obj), s.heap.get? p.S = some ob ∧ p.kd.Is p.S ys ob ∧ (n + 1) * p.kd.wt + ys.length = p.kd.top ∧ p.kd.Kn ys l v s.heap
  gen : ∀ q ∈ p.as, ∃ o, s.heap.get? q.1 = some o ∧ GenO q.2 o
def turnsG (X : Cx) (p : Seat) (Q : List V → VK) : Turns where
  R := fun n r s => match r with
    | .ok (.ret u) => p.g < s.gens.size ∧ ∃ ys v ip σ H, n * p.kd.wt + ys.length = p.kd.top ∧ GIP X p ip ys σ H s ∧ (∀ q ∈ ip, q.1 ∉ p.sp) ∧ RelV v u ∧ Q ys v H
    | _ => False
  Y := fun n v s => Gives p n v s
  L := SleptP p
def GSPP (X : Cx) (p : Seat) (ip : List (Addr × Obj)) (D : GEnds) (ys : List V) (f : PySem.Flow) (s : Shared) : Prop :=
  match f with
  | .next => ∃ σ H, GIP X p ip ys σ H s ∧ D.nx ys σ H
  | .brk => ∃ σ H, GIP X p ip ys σ H s ∧ D.bk ys σ H
  | .cont => ∃ σ H, GIP X p ip ys σ H s ∧ D.ct ys σ H
  | .ret u => ∃ v σ H, GIP X p ip ys σ H s ∧ RelV v u ∧ D.rt ys v H
structure GAt (X : Cx) (p : Seat) (ip : List (Addr × Obj)) (A : Around) (c : Code) (fs : List Frame) (gd : Bool → Bool) : Prop where
  sits : Sits X p
  ip : ∀ q ∈ ip, q.1 ∉ p.sp
  over : A.over c fs = X.A
  split : splitAtGen fs = none
  guard : fs.any Frame.guarded = false
  gd : gd false = false
abbrev Run (X : Cx) (p : Seat) (A : Around) (Q : List V → VK) : Nat → Code → Sem PySem.Fin → List Frame → Shared → Prop := FlowP (model X.prog X.w) A (turnsG X p Q)
structure GKP (X : Cx) (p : Seat) (ip : List (Addr × Obj)) (A : Around) (Q : List V → VK) (c : Code) (fs : List Frame) (K : PySem.Flow → Sem PySem.Fin) (D : GEnds) : Prop where
  ok : ∀ (n : Nat) (ys : List V) (s : Shared) (f : PySem.Flow), n * p.kd.wt + ys.length = p.kd.top → p.g < s.gens.size → GSPP X p ip D ys f s → Run X p A Q n c (K f) fs s
structure GPS (κ : Kind) (X : Cx) (st : Stmt) (t : TGn) : Prop where
  run : ∀ (A : Around) (p : Seat) (ip : List (Addr × Obj)) (Q : List V → VK) (n : Nat) (ys : List V) (c : Code) (fs : List Frame) (K : PySem.Flow → Sem PySem.Fin) (J : Value → Sem PySem.Fin) (gd : Bool → Bool) (lv : List Value → List Value) (s : Shared) (σ : L2.St) (H : Hp) (D : GEnds),
    GAt X p ip A c fs gd → p.kd = κ → n * p.kd.wt + ys.length = p.kd.top → GKP X p ip A Q c fs K D → GIP X p ip ys σ H s → p.g < s.gens.size → t D ys σ H → Run X p A Q n c ((exec st X.env).wrap K J gd lv) fs s
structure GPSs (κ : Kind) (X : Cx) (st : List Stmt) (t : TGn) : Prop where
  run : ∀ (A : Around) (p : Seat) (ip : List (Addr × Obj)) (Q : List V → VK) (n : Nat) (ys : List V) (c : Code) (fs : List Frame) (K : PySem.Flow → Sem PySem.Fin) (J : Value → Sem PySem.Fin) (gd : Bool → Bool) (lv : List Value → List Value) (s : Shared) (σ : L2.St) (H : Hp) (D : GEnds),
    GAt X p ip A c fs gd → p.kd = κ → n * p.kd.wt + ys.length = p.kd.top → GKP X p ip A Q c fs K D → GIP X p ip ys σ H s → p.g < s.gens.size → t D ys σ H → Run X p A Q n c ((execs st X.env).wrap K J gd lv) fs s
section
variable {κ : Kind} {X : Cx} {st : Stmt} {rest body orelse : List Stmt} {e c : Expr} {yp pos : Pos}
theorem gpss_cons {t u : TGn} (a : GPS κ X st t) (b : GPSs κ X rest u) : GPSs κ X (st :: rest) (tGThen t u) := by
  refine ⟨fun A p ip Q n ys c fs K J gd lv s σ H D g hκ hn k hI hsz ht => ?_⟩
  rw [execs_cons_wrap]
  refine a.run A p ip Q n ys c fs _ J gd lv s σ H { D with nx := fun ys' σ' H' => u D ys' σ' H' } g hκ hn ⟨fun n' ys' s' f hn' hz hs => ?_⟩ hI hsz ht
  cases f with
  | next =>
    obtain ⟨σ', H', I', q⟩ := hs
    exact b.run A p ip Q n' ys' c fs K J gd lv s' σ' H' D g hκ hn' k I' hz q
  | brk => exact k.ok n' ys' s' .brk hn' hz hs
  | cont => exact k.ok n' ys' s' .cont hn' hz hs
  | ret u => exact k.ok n' ys' s' (.ret u) hn' hz hs
end
end RP
set_option maxHeartbeats 1000000
namespace RP
open PySem PySem.Spec PyProof.Rows L2 GenW
end RP
set_option maxHeartbeats 1000000
namespace RP
open PySem PySem.Spec PyProof.Rows L2 GenW
theorem Gives.apart {p : Seat} {n : Nat} {v : Value} {s : Shared} (h : Gives p n v s) : cStatics ∉ p.sp := fun hm => by
  obtain ⟨mc, ⟨ob, es, ep, e, d, r⟩, hnn⟩ := h.lim
  rcases List.mem_cons.mp hm with hm | hm
  · obtain ⟨ys, l, o2, e2, i2, _⟩ := h.own
    exact p.kd.apart _ _ _ i2 hm
  · obtain ⟨q, hq, hq2⟩ := List.mem_map.mp hm
    obtain ⟨o, e2, nm, qn, _, hd, _⟩ := h.gen q hq
    rw [hq2, e] at e2
    cases e2
    rw [hd] at d
    cases d
end RP
set_option maxHeartbeats 1000000
namespace RP
open PySem PySem.Spec PyProof.Rows L2 GenW EV
/-- when a generator that was made (a, g; s ~> s' its call) begins in a seat -/
structure Begins (κ : Kind) (base : Heap) (outer : List PySem.Env) (H : Hp) (s s' : Shared) (a : Addr) (g : Nat) (S : Addr) (anc : List (Addr × Nat)) (ys : List V) (s2 : Shared) : Prop where
  sp : ∀ b ∈ S :: anc.map (·.1), H b = none ∧ b ∉ frs outer ∧ base.get? b = none ∧ (b < s.heap.objs.size ∨ s'.heap.objs.size ≤ b)
  own : ∃ ob : Obj, s2.heap.get? S = some ob ∧ κ.Is S ys ob
  gen : ∀ q ∈ anc, ∃ o, s2.heap.get? q.1 = some o ∧ GenO q.2 o
  keep : ∀ b o, b ∉ S :: anc.map (·.1) → s'.heap.get? b = some o → s2.heap.get? b = some o
  os : s2.os = s.os
  bare : AllBare s2.gens
  size : g < s2.gens.size
end RP
set_option maxHeartbeats 1000000
namespace RP
open PySem PySem.Spec PyProof.Rows L2 GenW EV
end RP
set_option maxHeartbeats 1000000
namespace RP
open PySem PySem.Spec PyProof.Rows L2 GenW EV
end RP
set_option maxHeartbeats 1000000
namespace RP
open PySem PySem.Spec PyProof.Rows L2 GenW EV
end RP
set_option maxHeartbeats 1000000
namespace RP
open PySem PySem.Spec PyProof.Rows L2 GenW EV
end RP
set_option maxHeartbeats 1000000
namespace RP
open PySem PySem.Spec PyProof.Rows L2 GenW EV
structure FnGP (P : Program) (w : World) (K : PySem.W.Frag) (mg : Str → Option Value) (base : Heap) (k : Nat) (f : Addr) (fd : FuncData) (ps : List Str) (sp : Sp) : Prop where
  many : ∀ vs H Q E, sp vs H Q E → vs.length = ps.length
  runs : ∀ (A : Around) (outer : List PySem.Env) (s : Shared) (H : Hp) (args : Args) (us : List Value) (vs : List V) (Q : VK) (E : XK), RoomG k A → Env0 P w K mg base A outer s H → BindsTo s fd args (ps.zip us) → Vals vs us → sp vs H Q E →
    codeAnyP (model P w) A (.call (.ref f) args) (CR CX0 outer P w H s Q E) s
end RP
set_option maxHeartbeats 1000000
namespace RP
open PySem PySem.Spec PyProof.Rows L2 GenW EV
end RP
set_option maxHeartbeats 1000000
namespace RP
open PySem PySem.Spec PyProof.Rows L2 GenW EV
end RP
set_option maxHeartbeats 1000000
namespace RP
open PySem PySem.Spec PyProof.Rows L2 GenW EV
/-- a statement of a generator's body: the list is what has been handed out -/
abbrev MGn := EV.Env → Hd → List D → Option (Fl × EV.Env × Hd × List D)
def EndGn (C : EV.Ctx) (Z : GEnds) (ρ' : RhoT) (H' : Hp) (σ' : L2.St) (ys' : List V) : Fl → Prop
  | .nx => Z.nx ys' σ' H'
  | .bk => Z.bk ys' σ' H'
  | .ct => Z.ct ys' σ' H'
  | .ret d => ∀ v, Rel C ρ' H' d v → Z.rt ys' v H'
  | .exc _ => False
def PostGn (C : EV.Ctx) (ρ : RhoT) (H : Hp) (Z : GEnds) (n : Nat) : Option (Fl × EV.Env × Hd × List D) → Prop
  | none => False
  | some (fl, env', hd', acc') => ∀ ρ' H' σ' ys', Ext ρ ρ' H H' → SimH C ρ' H' hd' → EnvRel C ρ' H' env' σ' → RelL C ρ' H' acc' ys' → σ'.length = n → EndGn C Z ρ' H' σ' ys' fl
def tGn (C : EV.Ctx) (m : MGn) : TGn := fun Z ys σ H => ∃ ρ env hd acc, EnvRel C ρ H env σ ∧ SimH C ρ H hd ∧ RelL C ρ H acc ys ∧ PostGn C ρ H Z σ.length (m env hd acc)
def gQ (s : MS) : MGn := fun env h acc => match s env h with
  | some (fl, e, h') => some (fl, e, h', acc)
  | none => none
def gYield (m : M D) : MGn := fun env h acc => match m env h with
  | .ok d h1 => if acc.length < sizeLine then some (.nx, env, h1, acc ++ [d]) else none
  | _ => none
def gSeq (a b : MGn) : MGn := fun env h acc => match a env h acc with
  | some (.nx, e, h', acc') => b e h' acc'
  | r => r
def gIf (c : M Bool) (a b : MGn) : MGn := fun env h acc => match c env h with
  | .ok true h1 => a env h1 acc
  | .ok false h1 => b env h1 acc
  | _ => none
def gLoop (g : MG) (body : MGn) : List D → MGn
  | [], env, h, acc => some (.nx, env, h, acc)
  | x :: xs, env, h, acc => match g x env h with
    | none => none
    | some (env1, h1) => match body env1 h1 acc with
      | some (.nx, e2, h2, acc2) => gLoop g body xs e2 h2 acc2
      | some (.ct, e2, h2, acc2) => gLoop g body xs e2 h2 acc2
      | some (.bk, e2, h2, acc2) => some (.nx, e2, h2, acc2)
      | r => r
def gFor (it : MI) (g : MG) (body : MGn) : MGn := fun env h acc => match it env h with
  | .ok items h1 => gLoop g body items env h1 acc
  | _ => none
abbrev GenT := List D → Hd → List D → Option (List D × Hd)
def gFrom (F : GenT) (n : Nat) (as : M (List D)) : MGn := fun env h acc => match as env h with
  | .ok xs h1 => if xs.length = n then (match F xs h1 acc with
    | some (acc', h2) => some (.nx, env, h2, acc')
    | none => none) else none
  | _ => none
def runG (n : Nat) (m : MGn) : GenT := fun ds hd acc => match m (startE n ds) hd acc with
  | some (.nx, _, h, acc') => some (acc', h)
  | _ => none
section
variable {κ : Kind} {X : Cx} {C : EV.Ctx} {pos yp : Pos} {e c : Expr} {st : Stmt} {sts body : List Stmt} {ms : MS} {ma : M D} {ta : M Bool} {ga gb : MGn}
theorem weakG {t t' : TGn} (h : GPS κ X st t) (w : ∀ Z ys σ H, t' Z ys σ H → t Z ys σ H) : GPS κ X st t' := ⟨fun A p ip Q n ys c fs K J gd lv s σ H D g hκ hn k hI hz q => h.run A p ip Q n ys c fs K J gd lv s σ H D g hκ hn k hI hz (w D ys σ H q)⟩
theorem weakGs {t t' : TGn} (h : GPSs κ X sts t) (w : ∀ Z ys σ H, t' Z ys σ H → t Z ys σ H) : GPSs κ X sts t' := ⟨fun A p ip Q n ys c fs K J gd lv s σ H D g hκ hn k hI hz q => h.run A p ip Q n ys c fs K J gd lv s σ H D g hκ hn k hI hz (w D ys σ H q)⟩
theorem evgs_cons (h : GPS κ X st (tGn C ga)) (hr : GPSs κ X sts (tGn C gb)) : GPSs κ X (st :: sts) (tGn C (gSeq ga gb)) :=
  weakGs (gpss_cons h hr) fun Z ys σ H ⟨ρ, env, hd, acc, er, sh, ra, p⟩ => by
    refine ⟨ρ, env, hd, acc, er, sh, ra, ?_⟩
    unfold gSeq at p
    cases hm : ga env hd acc with
    | none => rw [hm] at p; exact p
    | some q =>
      obtain ⟨fl, env', hd', acc'⟩ := q
      rw [hm] at p
      cases fl with
      | nx =>
        intro ρ2 H2 σ2 ys2 x s e r l
        refine ⟨ρ2, env', hd', acc', e, s, r, ?_⟩
        dsimp only at p
        rw [l]
        cases hb : gb env' hd' acc' with
        | none => rw [hb] at p; exact p
        | some q2 =>
          obtain ⟨fl2, env2, hd2, acc2⟩ := q2
          rw [hb] at p
          exact fun ρ3 H3 σ3 ys3 y => p ρ3 H3 σ3 ys3 (x.trans y)
      | bk => exact p
      | ct => exact p
      | ret d => exact p
      | exc x => exact p
theorem PostGn.ext {ρ ρ' : RhoT} {H H' : Hp} {Z : GEnds} {n : Nat} {r : Option (Fl × EV.Env × Hd × List D)} (x : Ext ρ ρ' H H') (p : PostGn C ρ H Z n r) : PostGn C ρ' H' Z n r := by
  cases r with
  | none => exact p
  | some q => obtain ⟨fl, env', hd', acc'⟩ := q; exact fun ρ2 H2 σ2 ys2 y => p ρ2 H2 σ2 ys2 (x.trans y)
/-- list(f(..)), f a generator def -/
def mlistG (m : Bool) (F : GenT) (n : Nat) (as : M (List D)) : M D := fun env h => (as env h).bind fun xs h1 => if xs.length = n then (match F xs h1 [] with
  | some (acc, h2) => fin m (if acc.length ≤ sizeLine then some (.new acc) else none) h2
  | none => .bad) else .bad
end
end RP
set_option maxHeartbeats 1000000
namespace RP
open PySem PySem.Spec PyProof.Rows L2 GenW EV
/-- a loud def: its body, run at its parameters' values; exceptions do not come -/
def runL (n : Nat) (m : MS) : FunT := fun ds hd => match m (startE n ds) hd with
  | some (.nx, _, h) => .ok .non h
  | some (.ret d, _, h) => .ok d h
  | _ => .bad
end RP
set_option maxHeartbeats 1000000
namespace RP
open PySem PySem.Spec PyProof.Rows L2 GenW EV
end RP
set_option maxHeartbeats 1000000
namespace RP
open PySem PySem.Spec PyProof.Rows L2 GenW EV
theorem FnGP.weak {P : Program} {w : World} {K : PySem.W.Frag} {mg : Str → Option Value} {base : Heap} {j k : Nat} {f : Addr} {fd : FuncData} {ps : List Str} {sp : Sp} (F : FnGP P w K mg base j f fd ps sp) (h : j ≤ k) : FnGP P w K mg base k f fd ps sp :=
  ⟨F.many, fun A outer s H args us vs Q E hr => F.runs A outer s H args us vs Q E (hr.weak h)⟩
structure PWP (X : Cx) (e : Expr) (t : TT) : Prop where
  run : ∀ (whole : Sem Value) (pins : List (Addr × Obj)) (s : Shared) (σ : L2.St) (H : Hp) (Q : Bool → Hp → Prop), Inv X pins σ H s → t σ H Q → wpAnyP (model X.prog X.w) X.A (isTrue e X.env whole) (TP X pins σ Q) X.xe s
section
variable {X : Cx} {C : EV.Ctx} {pos p : Pos} {a b c e : Expr} {rest es : List Expr} {ma mb mc' : M D} {ms : M (List D)} {ta tb : M Bool} {tA tB' : TT} {te : TE}
theorem PWP.pt (h : PWP X e tA) : PTP X e tA := ⟨fun pins s σ H Q I q => h.run _ pins s σ H Q I q⟩
variable {W : WX}
end
end RP
namespace EV
open PySem PySem.Spec PyProof.Rows L2 RP
section
variable {env : Env} {h : Hd} {acc : List D} {d x : D} {xs : List D} {a b : MGn} {S : MS} {g : MG} {c : M Bool} {m : M D}
@[simp] theorem gQ_at : gQ S env h acc = (match S env h with
  | some (fl, e, h') => some (fl, e, h', acc)
  | none => none) := rfl
@[simp] theorem gYield_at : gYield m env h acc = (match m env h with
  | .ok d h1 => if acc.length < sizeLine then some (.nx, env, h1, acc ++ [d]) else none
  | _ => none) := rfl
@[simp] theorem gSeq_at : gSeq a b env h acc = (match a env h acc with
  | some (.nx, e, h', acc') => b e h' acc'
  | r => r) := rfl
@[simp] theorem gIf_at : gIf c a b env h acc = (match c env h with
  | .ok true h1 => a env h1 acc
  | .ok false h1 => b env h1 acc
  | _ => none) := rfl
@[simp] theorem gLoop_nil : gLoop g a [] env h acc = some (.nx, env, h, acc) := rfl
@[simp] theorem gFor_at (it : MI) : gFor it g a env h acc = (match it env h with
  | .ok items h1 => gLoop g a items env h1 acc
  | _ => none) := rfl
@[simp] theorem gFrom_at (F : GenT) (n : Nat) (as : M (List D)) : gFrom F n as env h acc = (match as env h with
  | .ok xs h1 => if xs.length = n then (match F xs h1 acc with
    | some (acc', h2) => some (.nx, env, h2, acc')
    | none => none) else none
  | _ => none) := rfl
@[simp] theorem runG_at (n : Nat) (m : MGn) (ds : List D) : runG n m ds h acc = (match m (startE n ds) h acc with
  | some (.nx, _, h, acc') => some (acc', h)
  | _ => none) := rfl
@[simp] theorem ienum_at (m : M D) : ienum m env h = (m env h).bind fun x h1 => match x with
  | .tup xs => .ok (numbered xs) h1
  | .lst xs => .ok (numbered xs) h1
  | _ => .bad := rfl
@[simp] theorem mlistG_at (k : Bool) (F : GenT) (n : Nat) (as : M (List D)) : mlistG k F n as env h = (as env h).bind fun xs h1 => if xs.length = n then (match F xs h1 [] with
  | some (acc, h2) => fin k (if acc.length ≤ sizeLine then some (.new acc) else none) h2
  | none => .bad) else .bad := rfl
@[simp] theorem runL_at (n : Nat) (s : MS) (ds : List D) : runL n s ds h = (match s (startE n ds) h with
  | some (.nx, _, h) => .ok .non h
  | some (.ret d, _, h) => .ok d h
  | _ => .bad) := rfl
@[simp] theorem sat_runL (n : Nat) (s : MS) (ds : List D) (Q : D → Hd → Prop) (E : Exn → Hd → Prop) : Sat (runL n s ds h) Q E = SatS (s (startE n ds) h) (toRet Q fun _ _ => False) := by
  unfold runL
  cases s (startE n ds) h with
  | none => rfl
  | some q => obtain ⟨fl, e, h⟩ := q; cases fl <;> rfl
end
/-- plain data of known size -/
structure Pn (d s : Nat) (v : D) : Prop where
  pl : PlD [] v
  dp : dpD v ≤ d
  sz : szD v ≤ s
structure PnL (d s : Nat) (xs : List D) : Prop where
  pl : PlL [] xs
  dp : dpL xs ≤ d
  sz : szL xs ≤ s
theorem Pn.up {d s d' s' : Nat} {v : D} (h : Pn d s v) (h1 : d ≤ d') (h2 : s ≤ s') : Pn d' s' v := ⟨h.pl, Nat.le_trans h.dp h1, Nat.le_trans h.sz h2⟩
theorem Pn.tup {d s : Nat} {xs : List D} (h : PnL d s xs) : Pn (d + 1) (s + 3) (.tup xs) := ⟨by simp only [PlD]; exact h.pl, by simp only [dpD]; have := h.dp; omega, by simp only [szD]; have := h.sz; omega⟩
theorem Pn.lst {d s : Nat} {xs : List D} (h : PnL d s xs) : Pn (d + 1) (s + 3) (.lst xs) := ⟨by simp only [PlD]; exact h.pl, by simp only [dpD]; have := h.dp; omega, by simp only [szD]; have := h.sz; omega⟩
theorem PnL.nil : PnL 0 0 [] := ⟨by simp only [PlL], by simp [dpL], by simp [szL]⟩
theorem PnL.cons {d s d' s' : Nat} {x : D} {xs : List D} (h : Pn d s x) (r : PnL d' s' xs) : PnL (max d d') (s + 2 + s') (x :: xs) :=
  ⟨by simp only [PlL]; exact ⟨h.pl, r.pl⟩, by simp only [dpL]; have := h.dp; have := r.dp; omega, by simp only [szL]; have := h.sz; have := r.sz; omega⟩
theorem Pn.bl {b : Bool} : Pn 0 5 (.bl b) := ⟨by simp only [PlD], Nat.le_refl _, Nat.le_refl _⟩
theorem Pn.non : Pn 0 4 .non := ⟨by simp only [PlD], Nat.le_refl _, Nat.le_refl _⟩
theorem Pn.int {i : Int} (h : intOk i = true) : Pn 0 60 (.int i) := ⟨by simp only [PlD]; exact h, Nat.le_refl _, Nat.le_refl _⟩
end EV
namespace EV
open PySem PySem.Spec PyProof.Rows L2 RP
section
variable {env : Env} {h : Hd} {d x : D} {m : Bool} {ks : List (List Key)} {xs : List D}
@[simp] theorem mdct0_t : mdct0 true env h = .ok (.ref h.length) (h ++ [.dct [] []]) := rfl
@[simp] theorem mdct0_f : mdct0 false env h = .ok (.dct [] []) h := rfl
@[simp] theorem mdicR_at : mdicR env h = .ok (.ref h.length) (h ++ [.dic [] []]) := rfl
@[simp] theorem mgetT_at (o e : M D) : mgetT o e env h = (o env h).bind fun d h1 => (e env h1).bind fun k h2 => match dctOf d h2, keyT k with
  | some (ks, xs), some q => (match valT ks xs q with | some x => .ok x h2 | none => .bad)
  | _, _ => .bad := rfl
theorem satS_ofE (m : M D) (k : D → MS) {S : Fl → Env → Hd → Prop} : SatS (ofE m k env h) S = Sat (m env h) (fun d h1 => SatS (k d env h1) S) (fun x h => S (.exc x) env h) := by
  unfold ofE; cases m env h <;> rfl
@[simp] theorem satS_putT (mv mo mk : M D) {S : Fl → Env → Hd → Prop} : SatS (sPutT mv mo mk env h) S = Sat (mv env h) (fun v h1 => Sat (mo env h1) (fun d h2 => Sat (mk env h2) (fun k h3 => SatS (putTo v d k env h3) S) fun x h => S (.exc x) env h) fun x h => S (.exc x) env h) fun x h => S (.exc x) env h := by
  unfold sPutT
  simp only [satS_ofE]
@[simp] theorem putTo_ref (v k : D) (n : Nat) : putTo v (.ref n) k env h = (match h[n]?, keyT k with
    | some (.dct ks xs), some q => if ks.length < sizeLine then some (.nx, env, h.set n (.dct ((putP (ks.zip xs) q v).map (·.1)) ((putP (ks.zip xs) q v).map (·.2)))) else none
    | _, _ => none) := rfl
@[simp] theorem dctOf_dct : dctOf (.dct ks xs) h = some (ks, xs) := rfl
@[simp] theorem isDct_ref (n : Nat) : isDct (.ref n) h = (dctOf (.ref n) h).isSome := rfl
@[simp] theorem updT_at (n : Nat) : fUpdT (.ref n) [x] h = (match h[n]?, dctOf x h with
    | some (.dct ks xs), some (js, ys) => if ks.isEmpty = false ∧ ks.length + js.length ≤ sizeLine ∧ notRef x n = true then some (.non, h.set n (.dct ((mergeP (ks.zip xs) (js.zip ys)).map (·.1)) ((mergeP (ks.zip xs) (js.zip ys)).map (·.2)))) else none
    | _, _ => none) := rfl
@[simp] theorem listT_at : fListT [d] h = (dctOf d h).map fun q => .new (q.1.map fun k => .tup (k.map keyD)) := rfl
@[simp] theorem sortT_lst : fSortT [.lst xs] h = (intsT xs).map fun l => .new ((sortLL l).map tupI) := rfl
@[simp] theorem clear_at (n : Nat) : fClear (.ref n) [] h = (match h[n]? with
    | some (.lst _) => some (.non, h.set n (.lst []))
    | _ => none) := rfl
end
end EV
namespace EV
open PySem PySem.Spec PyProof.Rows L2
def getS (f : Str) : List Str → List D → Option D
  | g :: fs, x :: ds => if f = g then some x else getS f fs ds
  | _, _ => none
section
variable {C : Ctx} {ρ ρ' : RhoT} {H H' : Hp} {hd : Hd}
theorem getS_rel {f : Str} : ∀ {fs : List Str} {ds : List D} {vs : List V} {d : D}, RelL C ρ H ds vs → fs.length = ds.length → getS f fs ds = some d → ∃ v, (fs.zip vs).lookup f = some v ∧ Rel C ρ H d v
  | [], [], _, _, _, _, e => by cases e
  | [], _ :: _, _, _, _, l, _ => by cases l
  | _ :: _, [], _, _, _, l, _ => by cases l
  | g :: fs, x :: ds, vs, d, r, l, e => by
    simp only [RelL] at r
    obtain ⟨v, t, rfl, r1, r2⟩ := r
    unfold getS at e
    rw [List.zip_cons_cons, List.lookup_cons]
    by_cases h : f = g
    · subst h
      rw [if_pos rfl] at e
      cases e
      exact ⟨v, by simp, r1⟩
    · rw [if_neg h] at e
      obtain ⟨w, e1, r3⟩ := getS_rel r2 (Nat.succ.inj l) e
      exact ⟨w, by rw [show (f == g) = false from beq_eq_false_iff_ne.mpr h]; exact e1, r3⟩
end
end EV
set_option maxHeartbeats 4000000
namespace RP
open PySem PySem.Spec PyProof.Rows L2 GenW EV PySem.W
end RP
set_option maxHeartbeats 1000000
namespace RP
open PySem PySem.Spec PyProof.Rows L2 GenW EV
end RP
set_option maxHeartbeats 2000000
namespace PySem
open Sem (wp)
open MeetsSeq
end PySem
set_option maxHeartbeats 1000000
namespace RP
open PySem PySem.Spec PyProof.Rows L2 GenW EV
end RP
set_option maxHeartbeats 1000000
namespace RP
open PySem PySem.Spec PyProof.Rows L2 GenW EV
end RP
set_option maxHeartbeats 1000000
namespace EV
open PySem PySem.Spec PyProof.Rows L2
/-- the cases, a text against them -/
structure MC (X : Cx) (cases : List MatchCase) (t : Str → TS) : Prop where
  run : ∀ (first : Bool) (pins : List (Addr × Obj)) (s : Shared) (σ : L2.St) (H : Hp) (D : Ends) (z : Str) (v : Value), Inv X pins σ H s → L2.RelV (.str z) v → t z D σ H → wpAny (model X.prog X.w) X.A (matchCases cases X.env v first) (SP X pins D) X.xe s
def sCases : List (Str × MS) → Str → MS
  | [], _ => sPass
  | (c, b) :: r, z => if z = c then b else sCases r z
section
variable {X : Cx} {C : Ctx} {W : WX} {e : Expr} {me : M D} {cases rest : List MatchCase} {cs : List (Str × MS)} {c : Str} {j : Nat} {p1 p2 pos : Pos} {body : List Stmt} {b : MS}
theorem MC.weak {t t' : Str → TS} (h : MC X cases t) (w : ∀ z Z σ H, t' z Z σ H → t z Z σ H) : MC X cases t' := ⟨fun first pins s σ H D z v I r q => h.run first pins s σ H D z v I r (w z D σ H q)⟩
end
section
variable {env : Env} {h : Hd}
@[simp] theorem sCases_nil (z : Str) : sCases [] z = sPass := rfl
end
end EV
set_option maxHeartbeats 3200000
namespace EV
open PySem PySem.Spec PyProof.Rows L2 SS
end EV
set_option maxHeartbeats 1000000
namespace RP
open PySem PySem.Spec PyProof.Rows L2 GenW EV
end RP
set_option maxHeartbeats 1000000
namespace EV
open PySem PySem.Spec PyProof.Rows L2 SS GenW RP
end EV
namespace RP
open PySem PySem.Spec PyProof.Rows L2 GenW EV
end RP
namespace EV
open PySem PySem.Spec PyProof.Rows L2
section
variable {P : Program} {w : World} {K : PySem.W.Frag} {mg : Str → Option Value} {base : Heap} {x y : Str} {st : Stmt} {f T E Dk : Addr} {oc dc pm cd ct kV : Value} {od an : Option Addr} {osl : Array (Option Value)} {C : Ctx} {fd : FuncData} {CX : CXT} {k n : Nat} {F : FunT} {ps : List Str}
theorem fund0m (l : K.lookup f = some ⟨oc, od, .func (PySem.W.fnOf x y (defArgs st) (defBody st) (defScope st) .none kV dc pm an cd ct), osl⟩) (c : PySem.W.codeIn K cd y = true) (k : PySem.W.keepIn K (.ref f) = true) :
    FunD K x y (defArgs st) (defBody st) (defScope st) [] [] f (PySem.W.fnOf x y (defArgs st) (defBody st) (defScope st) .none kV dc pm an cd ct) :=
  ⟨⟨oc, od, .none, kV, dc, pm, an, cd, ct, osl, rfl, l, c, .inl ⟨rfl, rfl⟩, .inl rfl⟩, k⟩
end
end EV
namespace EV
open PySem PySem.Spec PyProof.Rows L2
end EV
set_option maxHeartbeats 1000000
namespace EV
open PySem PySem.Spec PyProof.Rows L2
/-- the values at some places -/
def permL {α : Type} (is : List Nat) (l : List α) : List α := is.filterMap (l[·]?)
theorem vals_get : ∀ {vs : List V} {us : List Value} (r : Vals vs us) (i : Nat), (vs[i]? = none ∧ us[i]? = none) ∨ ∃ v u, vs[i]? = some v ∧ us[i]? = some u ∧ RelV v u
  | _, _, .nil, i => .inl ⟨by simp, by simp⟩
  | _, _, .cons h r, i => by
    cases i with
    | zero => exact .inr ⟨_, _, by simp, by simp, h⟩
    | succ i => simpa using vals_get r i
theorem vals_perm {vs : List V} {us : List Value} (r : Vals vs us) : ∀ is : List Nat, Vals (permL is vs) (permL is us)
  | [] => .nil
  | i :: is => by
    have ih := vals_perm r is
    unfold permL at ih ⊢
    rcases vals_get r i with ⟨e1, e2⟩ | ⟨v, u, e1, e2, h⟩
    · rw [List.filterMap_cons_none e1, List.filterMap_cons_none e2]; exact ih
    · rw [List.filterMap_cons_some e1, List.filterMap_cons_some e2]; exact .cons h ih
theorem relL_perm {C : Ctx} {ρ : RhoT} {H : Hp} {ds : List D} {vs : List V} (r : RelL C ρ H ds vs) : ∀ is : List Nat, RelL C ρ H (permL is ds) (permL is vs)
  | [] => RelL.nil
  | i :: is => by
    have ih := relL_perm r is
    unfold permL at ih ⊢
    cases e : ds[i]? with
    | none =>
      have e2 : vs[i]? = none := by rw [List.getElem?_eq_none_iff] at e ⊢; rw [← r.length]; exact e
      rw [List.filterMap_cons_none e, List.filterMap_cons_none e2]; exact ih
    | some d =>
      obtain ⟨v, e2, h⟩ := r.get e
      rw [List.filterMap_cons_some e, List.filterMap_cons_some e2]; exact RelL.cons h ih
section
variable {K : PySem.W.Frag} {x qual : Str} {params : Arguments} {body : List Stmt} {scope : Scope} {dvs : List V} {kws : List (Str × V)} {f : Addr} {fd : FuncData} {ps : List Str}
/-- keywords, no defaults -/
theorem _root_.L2.FunD.kbindsP (F : FunD K x qual params body scope [] kws f fd) (n : Nat) (ks : List Str) (is : List Nat)
    (h : ∀ (kV doc pm : Value) (an : Option Addr) (cdv ct : Value) (us ws : List Value), us.length = n → ws.length = ks.length → bindArgs (PySem.W.fnOf x qual params body scope .none kV doc pm an cdv ct) ⟨us, ks.zip ws⟩ = pure (ps.zip (permL is (us ++ ws)))) :
    ∃ its : List Value, KBn K fd ps n ks (fun us ws => permL is (us ++ its ++ ws)) (fun vs zs => permL is (vs ++ [] ++ zs)) := by
  obtain ⟨oc, od, dV, kV, doc, pm, an, cdv, ct, osl, rfl, lk, hcd, hD, hK⟩ := F.ex
  rcases hD with ⟨_, rfl⟩ | ⟨e, _⟩
  · refine ⟨[], ⟨fun s us ws X l1 l2 => ?_, fun r1 r2 => vals_perm ((r1.append .nil).append r2) is⟩⟩
    rw [List.append_nil]
    exact .of_eq (h kV doc pm an cdv ct us ws l1 l2)
  · exact absurd rfl e
end
end EV
namespace RP
open PySem PySem.Spec PyProof.Rows L2 GenW EV
/-- the keywords' values in the parameters' order -/
def mkwG (n m : Nat) (gD : List D → List D → List D) (mk : M (List D)) : M (List D) := fun env h => (mk env h).bind fun zs h1 => if zs.length = m ∧ (gD [] zs).length = n then .ok (gD [] zs) h1 else .bad
@[simp] theorem mkwG_at (n m : Nat) (gD : List D → List D → List D) (mk : M (List D)) (env : EV.Env) (h : Hd) : mkwG n m gD mk env h = (mk env h).bind fun zs h1 => if zs.length = m ∧ (gD [] zs).length = n then .ok (gD [] zs) h1 else .bad := rfl
end RP
namespace EV
open PySem PySem.Spec PyProof.Rows L2 RP
end EV
set_option maxHeartbeats 1000000
namespace RP
open PySem PySem.Spec PyProof.Rows L2 GenW EV
end RP
namespace EV
open PySem PySem.Spec PyProof.Rows L2
end EV
set_option maxHeartbeats 1000000
namespace EV
open PySem PySem.Spec PyProof.Rows L2
/-- k in d (n: not in), d a dict with tuple keys -/
def mindT (n : Bool) (a b : M D) : M D := fun env h => (a env h).bind fun k h1 => (b env h1).bind fun d h2 => match dctOf d h2, keyT k with
  | some (ks, xs), some q => .ok (.bl (n != (valT ks xs q).isSome)) h2
  | _, _ => .bad
section
variable {env : Env} {h : Hd}
@[simp] theorem mindT_at (n : Bool) (a b : M D) : mindT n a b env h = (a env h).bind fun k h1 => (b env h1).bind fun d h2 => match dctOf d h2, keyT k with
  | some (ks, xs), some q => .ok (.bl (n != (valT ks xs q).isSome)) h2
  | _, _ => .bad := rfl
end
end EV
set_option maxHeartbeats 4000000
namespace RP
open PySem PySem.Spec PyProof.Rows L2 GenW EV PySem.W
theorem FnGP.of {P : Program} {w : World} {K : PySem.W.Frag} {mg : Str → Option Value} {base : Heap} {k : Nat} {f : Addr} {fd : FuncData} {ps : List Str} {sp : Sp} (F : FnG P w K mg base CX0 k f fd ps sp) : FnGP P w K mg base k f fd ps sp :=
  ⟨F.many, fun A outer s H args us vs Q E hr e0 b r h => code_of (F.runs A outer s H args us vs Q E hr e0 b r h)⟩
/-- C(k = v, ..), C() -/
def mmakeK (c : Nat) (F : FunT) (n m : Nat) (gD : List D → List D → List D) (mk : M (List D)) : M D := fun env h => (mk env h).bind fun zs h1 => if zs.length = m ∧ (gD [.ref h1.length] zs).length = n then
    (F (gD [.ref h1.length] zs) (h1 ++ [.ins c [] []])).bind fun d h2 => match d with | .non => .ok (.ref h1.length) h2 | _ => .bad
  else .bad
@[simp] theorem mmakeK_at (c : Nat) (F : FunT) (n m : Nat) (gD : List D → List D → List D) (mk : M (List D)) (env : EV.Env) (h : Hd) : mmakeK c F n m gD mk env h = (mk env h).bind fun zs h1 => if zs.length = m ∧ (gD [.ref h1.length] zs).length = n then
    (F (gD [.ref h1.length] zs) (h1 ++ [.ins c [] []])).bind fun d h2 => match d with | .non => .ok (.ref h1.length) h2 | _ => .bad
  else .bad := rfl
end RP
set_option maxHeartbeats 4000000
namespace RP
open PySem PySem.Spec PyProof.Rows L2 GenW EV
end RP
set_option maxHeartbeats 4000000
namespace EV
open PySem PySem.Spec PyProof.Rows L2 PySem.W
end EV
namespace RP
open PySem PySem.Spec PyProof.Rows L2 GenW EV
end RP
set_option maxHeartbeats 1000000
namespace EV
open PySem PySem.Spec PyProof.Rows L2
end EV
set_option maxHeartbeats 1000000
namespace EV
open PySem PySem.Spec PyProof.Rows L2
end EV
set_option maxHeartbeats 1000000
namespace EV
open PySem PySem.Spec PyProof.Rows L2
end EV
set_option maxHeartbeats 1000000
namespace EV
open PySem PySem.Spec PyProof.Rows L2
section
variable {X : L2.Cx} {C : Ctx} {W : WX} {e : Expr} {es : List Expr} {ms : M (List D)} {p pos rp : Pos} {ρ : RhoT} {H : Hp}
theorem relL_parts : ∀ {ds : List D} {vs : List V}, RelL C ρ H ds vs → ∀ {ds' : List D} {vs' : List V}, RelL C ρ H ds' vs' → RelL C ρ H (ds ++ ds') (vs ++ vs')
  | [], vs, r, _, _, r' => by
    simp only [RelL] at r
    subst r
    exact r'
  | d :: ds, vs, r, _, _, r' => by
    simp only [RelL] at r
    obtain ⟨v, t, rfl, r1, r2⟩ := r
    exact RelL.cons r1 (relL_parts r2 r')
theorem relL_rev : ∀ {ds : List D} {vs : List V}, RelL C ρ H ds vs → RelL C ρ H ds.reverse vs.reverse
  | [], vs, r => by
    simp only [RelL] at r
    subst r
    exact RelL.nil
  | d :: ds, vs, r => by
    simp only [RelL] at r
    obtain ⟨v, t, rfl, r1, r2⟩ := r
    rw [List.reverse_cons, List.reverse_cons]
    exact relL_parts (relL_rev r2) (RelL.cons r1 RelL.nil)
end
end EV
set_option maxHeartbeats 1000000
namespace EV
open PySem PySem.Spec PyProof.Rows L2
/-- x is what was caught: it stands in slot i, at a; its dict as d says -/
def Caught (C : Ctx) (ρ : RhoT) (H : Hp) (x : Exn) (i : Nat) (a : Addr) (cls : Value) (d : Option Addr) (σ : L2.St) : Prop :=
  σ[i]? = some (some (.ref a)) ∧ cls = .ref (C.ca x.cls) ∧ XRel C ρ H x d
section
variable {X : L2.Cx} {C : Ctx} {W : WX} {i : Nat} {a : Addr} {cls : Value} {d : Option Addr} {σ : L2.St} {ρ ρ' : RhoT} {H H' : Hp} {hd : Hd} {env : Env} {x : Exn} {e : Expr} {es : List Expr} {pos : Pos}
theorem Caught.ext (c : Caught C ρ H x i a cls d σ) (sh : SimH C ρ H hd) (y : Ext ρ ρ' H H') : Caught C ρ' H' x i a cls d σ := by
  obtain ⟨h1, h2, dd, vs, h3, h4, h5, h6⟩ := c
  refine ⟨h1, h2, dd, vs, h3, y.keep dd _ h4 noT_xd fun n hn => ?_, h5, RelL.ext y _ _ h6⟩
  obtain ⟨o, _, r⟩ := sh.at_ n dd hn
  rw [h4] at r
  cases o with
  | lst xs => obtain ⟨_, z, _⟩ := r; cases z
  | dic ks ds => obtain ⟨_, z, _⟩ := r; cases z
  | dct ks ds => obtain ⟨_, z, _⟩ := r; cases z
  | ins c fs ds => obtain ⟨_, _, z, _⟩ := r; cases z
  | dead => exact r
end
end EV
set_option maxHeartbeats 1000000
namespace EV
open PySem PySem.Spec PyProof.Rows L2
/-- what the written part says of an exception's class, for isinstance -/
structure ExcK (K : PySem.W.Frag) (D : Addr) : Prop where
  isC : (PySem.W.clsIn K D).isSome = true
  ga : PySem.W.findIn K (.ref D) "__getattribute__" = some (some (.builtin "BaseException.__getattribute__"))
  gt : PySem.W.findIn K (.ref D) "__getattr__" = some none
  sub : PySem.W.subIn K (.ref D) (.type "BaseException") = some true
  cl : PySem.W.findIn K (.ref D) "__class__" = some (some (.builtin "object.__class__"))
  get : PySem.W.specialIn K (.builtin "object.__class__") "__get__" = some (some (.builtin "getset_descriptor.__get__"))
  tk : PySem.W.takesIn K (.builtin "object.__class__") = some true
  mro : PySem.W.mroIn K D (.type "object") = some true
end EV
set_option maxHeartbeats 1000000
namespace RP
open PySem PySem.Spec PyProof.Rows L2 GenW EV
end RP
set_option maxHeartbeats 2000000
namespace EV
open PySem PySem.Spec PyProof.Rows L2
/-- the built-in classes over which the program's errors stand -/
inductive Fam where
  | val | look | run | arith
def Fam.nm : Fam → String
  | .val => "ValueError" | .look => "LookupError" | .run => "RuntimeError" | .arith => "ArithmeticError"
def Fam.mk : Fam → String
  | .val => "ValueError.__new__" | .look => "LookupError.__new__" | .run => "RuntimeError.__new__" | .arith => "ArithmeticError.__new__"
def Fam.ini : Fam → String
  | .val => "ValueError.__init__" | .look => "LookupError.__init__" | .run => "RuntimeError.__init__" | .arith => "ArithmeticError.__init__"
def Fam.up (f : Fam) : List Value := [.type f.nm, .type "Exception", .type "BaseException", .type "object"]
theorem Fam.base : ∀ f : Fam, ExcBaseFacts f.nm f.mk f.ini f.up
  | .val => F.excBase_ValueError
  | .look => F.excBase_LookupError
  | .run => F.excBase_RuntimeError
  | .arith => F.excBase_ArithmeticError
theorem Fam.store : ∀ f : Fam, StoreFacts f.nm f.up "object.__setattr__" "object"
  | .val => F.store_ValueError
  | .look => F.store_LookupError
  | .run => F.store_RuntimeError
  | .arith => F.store_ArithmeticError
/-- what the written part says of such a class -/
structure ExB (K : PySem.W.Frag) (f : Fam) (D : Addr) : Prop where
  made : PySem.W.excInitIn K D f.up f.mk = true
  over : PySem.W.excOver K D f.up = true
  hasD : PySem.W.hasDictIn K D = true
  sa : PySem.W.findIn K (.ref D) "__setattr__" = some (some (.builtin "object.__setattr__"))
  kp : PySem.W.keepIn K (.ref D) = true
section
variable {X : L2.Cx} {pins : List (Addr × Obj)} {σ : L2.St} {H : Hp} {s : Shared} {h' : Heap} {a d : Addr} {φ ψ χ : Heap → Prop} {t' : Nat}
/-- one object written, a further one laid -/
theorem inv_both (I : Inv X pins σ H s) (ea : H a = some (.ext φ)) (hd : s.heap.objs.size ≤ d) (k : ∀ b o, b ≠ a → s.heap.get? b = some o → h'.get? b = some o)
    (na : ∀ H', ObjOk X.prog X.w H' h' a (.ext ψ)) (nd : ∀ H', ObjOk X.prog X.w H' h' d (.ext χ)) : Inv X pins σ (upd (upd H d (.ext χ)) a (.ext ψ)) { s with heap := h', toks := t' } := by
  have fd : H d = none := I.hok.fresh hd
  have old : ∀ {b : Addr} {o : Obj}, s.heap.get? b = some o → b ≠ d := fun q => Nat.ne_of_lt (Nat.lt_of_lt_of_le (Heap.lt_size q) hd)
  have other : ∀ {b : Addr} {o : Option HO}, H b = o → o ≠ some (.ext φ) → b ≠ a := fun q n z => n (by rw [← q, z, ea])
  have same : ∀ {b : Addr}, b ≠ a → b ≠ d → upd (upd H d (.ext χ)) a (.ext ψ) b = H b := fun q1 q2 => by rw [upd_ne q1, upd_ne q2]
  have kept : ∀ {b : Addr} {o : HO}, H b = some o → some o ≠ some (.ext φ) → upd (upd H d (.ext χ)) a (.ext ψ) b = some o := fun q n => by
    rw [same (other q n) (fun z => by rw [z, fd] at q; cases q)]
    exact q
  refine I.un ⟨fun b o q n _ _ => k b o (other n (fun z => by cases z)) q, fun b o q n _ _ => ⟨o.slots, k b o (other n (fun z => by cases z)) q⟩, fun b o q n _ => ?_, fun b o q _ => ?_,
    fun b xs q => kept q (fun z => by cases z), fun b o u q => kept q (fun z => by cases z), fun b ps q => ⟨#[], by rw [kept q (fun z => by cases z)]; simp⟩⟩ fun b o q => ?_
  · rw [same (other n (fun z => by cases z)) (old q)]
    exact n
  · by_cases h : b = a
    · subst h
      obtain ⟨_, q1, _⟩ := na H
      exact q1
    · exact ⟨o, k b o h q⟩
  · by_cases h : b = a
    · subst h
      rw [upd_same] at q
      cases q
      exact na _
    · rw [upd_ne h] at q
      by_cases h2 : b = d
      · subst h2
        rw [upd_same] at q
        cases q
        exact nd _
      · rw [upd_ne h2] at q
        refine (I.hok b o q).stay (fun c v hc => k c v ?_) (fun c hc => kept hc (fun z => by cases z)) (fun c xs hc => kept hc (fun z => by cases z))
        rcases hc with hc | hc
        · rw [hc]
          exact h
        · exact other hc (fun z => by cases z)
end
section
variable {X : L2.Cx} {pins : List (Addr × Obj)} {σ : L2.St} {H : Hp} {s : Shared} {a D : Addr} {g : Str} {y : V} {u : Value} {fs : List (Str × V)} {Q : Unit → Shared → Prop} {E : Value → Shared → Prop} {A : Around} {f : Fam}
theorem taker_none {K : PySem.W.Frag} (h : PySem.W.findIn K (.ref D) g = some none) : PySem.W.takerIn K D g = some none := by
  unfold PySem.W.takerIn
  rw [h]
  rfl
/-- .. ahead of all others -/
theorem set_first (T : ExB X.K f D) (I : Inv X pins σ H s) (e : H a = some (exo a D none)) (hno : PySem.W.findIn X.K (.ref D) g = some none) (ry : RelV y u)
    (k : ∀ dx s', H dx = none → dx ≠ a → Inv X pins σ (upd (upd H dx (exd dx [(g, y)])) a (exo a D (some dx))) s' → Q () s') : wpAny (model X.prog X.w) A (setAttr (.ref a) g u) Q E s := by
  obtain ⟨t1, at1⟩ := exo_at I.hok e
  obtain ⟨cd, hc, hcd⟩ := PySem.W.any_some T.hasD
  obtain ⟨hp, gg, dr, tk, os⟩ := s
  refine PySem.W.set_plain (od := none) I.kIn ⟨at1, rfl, rfl, trivial⟩ T.sa (PySem.W.osa_openX (od := none) f.store I.kIn ⟨at1, rfl, rfl, trivial⟩ T.over (taker_none hno) fun b => ?_)
  refine wpAny_bind (wpAny_pure (wpAny_bind (PySem.W.instanceDict_exc at1 (PySem.W.looks_clsIn I.kIn hc) hcd ?_)))
  have lt : a < hp.objs.size := Heap.lt_size at1
  have fresh : ((hp.push (PySem.W.dictOf [] 0)).update a fun o => { o with dict := some hp.objs.size }).Ns hp.objs.size fun _ => none :=
    ⟨PySem.W.dictOf [] 0, #[], 0, (Heap.get?_update_ne _ _ _ _ (Nat.ne_of_gt lt)).trans (Heap.get?_push_at rfl rfl), rfl, fun e he => absurd he (by simp), fun _ => rfl⟩
  refine PySem.HandSPX.store_in_new fresh fun h' tk' hn hs => ?_
  have hx : h'.get? a = some { cls := .ref D, dict := some hp.objs.size, data := .fields #[.ref t1, .none, .none, .none, .bool false, .none] } :=
    (hs.2 a (Nat.ne_of_lt lt)).trans (Heap.get?_update_self _ (Heap.get?_push_of_some _ at1) rfl)
  refine k hp.objs.size _ (I.hok.fresh (Nat.le_refl _)) (Nat.ne_of_gt lt) (inv_both (s := ⟨hp, gg, dr, tk, os⟩) (t' := tk') I e (Nat.le_refl _) (fun b o hb ho => ?_) (fun _ => exo_ok hx) fun _ => exd_ok hn (relO_put (fs := []) ry fun _ => True.intro))
  exact (hs.2 b (Nat.ne_of_lt (Heap.lt_size ho))).trans ((Heap.get?_update_ne _ _ _ _ hb).trans (Heap.get?_push_of_some _ ho))
/-- .. behind others -/
theorem set_next {dx : Addr} (T : ExB X.K f D) (I : Inv X pins σ H s) (e : H a = some (exo a D (some dx))) (ed : H dx = some (exd dx fs)) (hl : fs.length ≤ 900) (hno : PySem.W.findIn X.K (.ref D) g = some none) (ry : RelV y u)
    (k : ∀ s', Inv X pins σ (upd H dx (exd dx ((g, y) :: fs))) s' → Q () s') : wpAny (model X.prog X.w) A (setAttr (.ref a) g u) Q E s := by
  obtain ⟨t1, at1⟩ := exo_at I.hok e
  obtain ⟨mN, ns, rel⟩ := exd_at I.hok ed
  obtain ⟨cd, hc, hcd⟩ := PySem.W.any_some T.hasD
  have win := within_of rel
  obtain ⟨hp, gg, dr, tk, os⟩ := s
  obtain ⟨oD, _, _, hoD, _, _⟩ := ns.count win
  refine PySem.W.set_plain (od := some oD) I.kIn ⟨at1, rfl, rfl, hoD⟩ T.sa (PySem.W.osa_openX (od := some oD) f.store I.kIn ⟨at1, rfl, rfl, hoD⟩ T.over (taker_none hno) fun b => ?_)
  refine wpAny_bind (wpAny_pure (wpAny_bind (wpAny_bind (wpAny_loadPart at1 (wpAny_bind ((PySem.W.looks_clsIn I.kIn hc).at ?_))))))
  rw [hcd]
  refine wpAny_pure (a := some dx) (PySem.OEX.store_in_old ns win (by rw [List.length_map]; omega) fun h' tk' hn hs => ?_)
  have thr : ∃ o, h'.get? dx = some o := by
    obtain ⟨o, _, _, q, _⟩ := hn
    exact ⟨o, q⟩
  exact k _ (Inv.write (s := ⟨hp, gg, dr, tk, os⟩) (t' := tk') (x := dx) (e := dx) I (by rw [ed]; exact True.intro) (.inl rfl) (fun b o hb ho => (hs.2 b hb).trans ho) thr (exd_ok hn (relO_put ry rel)))
/-- the built-in __init__ -/
theorem init_ok {us : List Value} {Q : Value → Shared → Prop} (T : ExB X.K f D) (I : Inv X pins σ H s) (e : H a = some (exo a D none)) (hl : us.length ≤ sizeLine) (k : ∀ s', Inv X pins σ H s' → Q .none s') :
    wpAny (model X.prog X.w) A (call (.builtin f.ini) (.ref a :: us)) Q E s := by
  obtain ⟨_, _, _, _, _, _, _, _, _, _, _, _, _, _, _, _, hC, hT⟩ := PySem.W.excInit_of I.kIn T.made
  obtain ⟨t1, at1⟩ := exo_at I.hok e
  obtain ⟨hp, gg, dr, tk, os⟩ := s
  refine wpAny_call (PySem.HandSPX.init_base f.base hT hC at1 hl fun h' t2 q hx => ?_)
  have J := I.write (t' := tk) (x := a) (e := a) (o := exo a D none) (by rw [e]; exact True.intro) (.inl rfl) q ⟨_, hx⟩ (exo_ok hx)
  rw [show upd H a (exo a D none) = H from funext fun b => by
    by_cases hb : b = a
    · rw [hb, upd_same, e]
    · rw [upd_ne hb]] at J
  exact k _ J
end
end EV
set_option maxHeartbeats 2000000
namespace EV
open PySem PySem.Spec PyProof.Rows L2
/-- Base.__init__(self, ..) -/
def tIni (K : PySem.W.Frag) (f : Fam) (ta : TA) : TE := fun σ H Q => ta σ H fun vs H1 => ∃ (a D : Addr) (ws : List V), vs = .ref a :: ws ∧ ws.length ≤ 1000 ∧ ExB K f D ∧ H1 a = some (exo a D none) ∧ Q .non H1
/-- self.g = e -/
def tPut (K : PySem.W.Frag) (f : Fam) (g : Str) (to te : TE) : TS := fun R σ H => te σ H fun y H1 => to σ H1 fun x H2 => ∃ a D : Addr, x = .ref a ∧ ExB K f D ∧ PySem.W.findIn K (.ref D) g = some none ∧
  ((H2 a = some (exo a D none) ∧ ∀ dx, H2 dx = none → dx ≠ a → R.nx σ (upd (upd H2 dx (exd dx [(g, y)])) a (exo a D (some dx)))) ∨
    ∃ (dx : Addr) (fs : List (Str × V)), H2 a = some (exo a D (some dx)) ∧ H2 dx = some (exd dx fs) ∧ fs.length ≤ 900 ∧ R.nx σ (upd H2 dx (exd dx ((g, y) :: fs))))
section
variable {X : L2.Cx} {o e : Expr} {es : List Expr} {te to : TE} {ta : TA} {x g : Str} {p p' p1 p2 pos : Pos} {CM : Addr} {mc : Value}
/-- .. the base is an own class -/
theorem pe_iniC {pl : Sem Bool} (f : Fam) (hg : Gl X x) (hm : X.mg x = some (.ref CM)) (r : ClX.CRead X.K CM mc) (vV : PySem.W.findCls X.K (.ref CM) mc "__init__" = some (.val (.builtin f.ini))) (hh : PySem.W.handedIn (.builtin f.ini) = true) (ha : PA X (e :: es) ta) (hdb : (x == ("__debug__" : Str)) = false)
    (hc : eval (.Call (.Attribute (.Name x p1) "__init__" p2) (e :: es) [] pos) X.env = (do
      let ov ← eval (.Name x p1) X.env
      standAt p2.atName
      let (m, own) ← holding [ov] (getMethod ov "__init__" pl)
      callWith pos m own (backTo pos (starEach (e :: es) X.env)) (backToKw pos (keywordEach [] X.env)))) (he : starEach (e :: es) X.env = (false, eval e X.env) :: starEach es X.env) (hpl : (backTo pos (starEach es X.env)).any (·.1) = false) :
    PE X (.Call (.Attribute (.Name x p1) "__init__" p2) (e :: es) [] pos) (tIni X.K f ta) := by
  refine ⟨fun pn s τ G R J0 w0 => ?_⟩
  refine PySem.W.methodCall_KW (ld_glob J0 hg hm ?_ hdb) hc
  refine PySem.W.method_cls J0.kIn r.ga (PySem.W.cls_value J0.kIn r.rd vV hh ?_)
  refine PyProof.Rows.callWith_method1 (thn (ha.run pos pn _ τ G _ (J0.tok _) w0) fun as z1 ⟨bs, G1, J1, q1, ex, Cl, cs, ev, le, T, at0, w1⟩ => ?_) he hpl
  subst ev
  cases q1 with
  | @cons _ y0 _ rest r0 r2 =>
    obtain rfl : y0 = Value.ref ex := r0
    exact init_ok T J1 at0 (by rw [sizeLine_eq, ← Paired.length r2]; omega) fun z2 J2 => ⟨.non, G1, J2, rfl, w1⟩
theorem Fam.typ : ∀ f : Fam, typeOf (.type f.nm) = pure (.type "type")
  | .val => by kernel_rfl
  | .look => by kernel_rfl
  | .run => by kernel_rfl
  | .arith => by kernel_rfl
theorem Fam.stub : ∀ f : Fam, Manifest.isStub f.nm = false
  | .val => by decide +kernel
  | .look => by decide +kernel
  | .run => by decide +kernel
  | .arith => by decide +kernel
theorem Fam.hand : ∀ f : Fam, PySem.W.handedIn (.builtin f.ini) = true
  | .val => by decide +kernel
  | .look => by decide +kernel
  | .run => by decide +kernel
  | .arith => by decide +kernel
/-- .. the base is built in -/
theorem pe_iniB {pl : Sem Bool} (f : Fam) (hg : Gl X x) (hm : X.mg x = none) (hb : bootBuiltins x = some (.type f.nm)) (hn : x ≠ "__name__") (vV : PySem.W.findCls X.K (.type f.nm) (.type "type") "__init__" = some (.val (.builtin f.ini))) (ha : PA X (e :: es) ta) (hdb : (x == ("__debug__" : Str)) = false)
    (hc : eval (.Call (.Attribute (.Name x p1) "__init__" p2) (e :: es) [] pos) X.env = (do
      let ov ← eval (.Name x p1) X.env
      standAt p2.atName
      let (m, own) ← holding [ov] (getMethod ov "__init__" pl)
      callWith pos m own (backTo pos (starEach (e :: es) X.env)) (backToKw pos (keywordEach [] X.env)))) (he : starEach (e :: es) X.env = (false, eval e X.env) :: starEach es X.env) (hpl : (backTo pos (starEach es X.env)).any (·.1) = false) :
    PE X (.Call (.Attribute (.Name x p1) "__init__" p2) (e :: es) [] pos) (tIni X.K f ta) := by
  refine ⟨fun pn s τ G R J0 w0 => ?_⟩
  refine PySem.W.methodCall_KW (ld_blt J0 hg hm hb ?_ hn hdb) hc
  obtain ⟨m, fr⟩ := J0.fr
  refine PySem.W.method_type fr J0.ok.mod.kin f.typ f.stub vV f.hand ?_
  refine PyProof.Rows.callWith_method1 (thn (ha.run pos pn _ τ G _ (J0.tok _) w0) fun as z1 ⟨bs, G1, J1, q1, ex, Cl, cs, ev, le, T, at0, w1⟩ => ?_) he hpl
  subst ev
  cases q1 with
  | @cons _ y0 _ rest r0 r2 =>
    obtain rfl : y0 = Value.ref ex := r0
    exact init_ok T J1 at0 (by rw [sizeLine_eq, ← Paired.length r2]; omega) fun z2 J2 => ⟨.non, G1, J2, rfl, w1⟩
theorem ps_put (f : Fam) (ho : PE X o to) (he : PE X e te) (hs : swapsWith e (some (.Attribute o g p')) pos.line X.env = pure false) : PS X (.Assign [.Attribute o g p'] e pos) (tPut X.K f g to te) := by
  refine ⟨fun pn s τ G R J w => plainObj_wpAny_Assign_Attribute (thn (he.run pn s τ G _ J w) fun v s1 ⟨y, G1, J1, r1, q1⟩ => thn (ho.run pn s1 τ G1 _ J1 q1) fun u s2 ⟨z, G2, J2, r2, a, D, ez, T, hno, q⟩ => ?_) hs⟩
  subst ez
  have hu : u = Value.ref a := r2
  subst hu
  rcases q with ⟨e0, q⟩ | ⟨dx, gs, e0, e1, hl, q⟩
  · exact set_first T J2 e0 hno r1 fun dx s' n ne J3 => ⟨τ, _, J3, q dx n ne⟩
  · exact set_next T J2 e0 e1 hl hno r1 fun s' J3 => ⟨τ, _, J3, q⟩
end
def spY (K : PySem.W.Frag) (f : Fam) (fs : List Str) : Sp := fun vs H Q _ => ∃ (a D : Addr) (ws : List V), vs = .ref a :: ws ∧ ws.length = fs.length ∧ ExB K f D ∧ (∀ g ∈ fs, PySem.W.findIn K (.ref D) g = some none) ∧ H a = some (exo a D none) ∧
  ∀ (dx : Addr) (H' : Hp), H dx = none → dx ≠ a → H' a = some (exo a D (some dx)) → H' dx = some (exd dx (fs.zip ws).reverse) → (∀ b, b ≠ a → b ≠ dx → H' b = H b) → Q .non H'
theorem spY_len {K : PySem.W.Frag} {f : Fam} {fs ps : List Str} (hl : ps.length = fs.length + 1) : ∀ vs H Q E, spY K f fs vs H Q E → vs.length = ps.length := by
  intro vs H Q E ⟨a, D, ws, e, l, _⟩
  rw [e, List.length_cons, l, hl]
section
variable {K : PySem.W.Frag} {fm : Fam} {N : List Str} {vs : List V} {H : Hp} {Q : VK} {E : XK} {f g : Str} {z : Str}
theorem ini1_reads {R : Ends} (hN : N.length = 2) (hR : ∀ σ H', Q .non H' → R.nx σ H') (h : spY K fm [f] vs H Q E) : tSeq (tDrop (tIni K fm (tCons (tVar 0) (tCons (tC (.str z)) tNil)))) (tPut K fm f (tVar 0) (tVar 1)) R (L2.start N vs) H := by
  obtain ⟨a, D, ws, rfl, l, T, hf, ha, k⟩ := h
  obtain ⟨v, rfl⟩ : ∃ v, ws = [v] := by
    match ws, l with
    | [v], _ => exact ⟨v, rfl⟩
  refine ⟨_, rfl, a, D, [.str z], rfl, Nat.le_of_ble_eq_true rfl, T, ha, _, rfl, _, rfl, a, D, rfl, T, hf f (by simp), .inl ⟨ha, fun dx hd hne => hR _ _ (k dx _ hd hne (upd_same ..) ?_ fun b h1 h2 => ?_)⟩⟩
  · rw [upd_ne hne, upd_same]; rfl
  · rw [upd_ne h1, upd_ne h2]
theorem ini2_reads {R : Ends} (hN : N.length = 3) (hR : ∀ σ H', Q .non H' → R.nx σ H') (h : spY K fm [f, g] vs H Q E) :
    tSeq (tDrop (tIni K fm (tCons (tVar 0) (tCons (tC (.str z)) tNil)))) (tSeq (tPut K fm f (tVar 0) (tVar 1)) (tPut K fm g (tVar 0) (tVar 2))) R (L2.start N vs) H := by
  obtain ⟨a, D, ws, rfl, l, T, hf, ha, k⟩ := h
  obtain ⟨v, w, rfl⟩ : ∃ v w, ws = [v, w] := by
    match ws, l with
    | [v, w], _ => exact ⟨v, w, rfl⟩
  refine ⟨_, rfl, a, D, [.str z], rfl, Nat.le_of_ble_eq_true rfl, T, ha, _, rfl, _, rfl, a, D, rfl, T, hf f (by simp), .inl ⟨ha, fun dx hd hne => ?_⟩⟩
  refine ⟨_, rfl, _, rfl, a, D, rfl, T, hf g (by simp), .inr ⟨dx, [(f, v)], upd_same .., by rw [upd_ne hne, upd_same], Nat.le_of_ble_eq_true rfl, hR _ _ (k dx _ hd hne ?_ ?_ fun b h1 h2 => ?_)⟩⟩
  · rw [upd_ne (Ne.symm hne), upd_same]
  · rw [upd_same]; rfl
  · rw [upd_ne h2, upd_ne h1, upd_ne h2]
end
end EV
namespace EV
open PySem PySem.Spec L2
section
variable {prog : Program} {w : World} {A : Around} {R : Result → Shared → Prop} {E : Value → Shared → Prop} {h : Heap} {g : Array GenState} {d : Drawn} {t : Nat} {os : OsState}
variable {f : Fam} {nm q : Str} {C N : Addr} {bs bm sub : List Value} {hdct ab : Bool} {sn : List Str} {col : Option Bool} {dd : Option Addr} {k0 k1 k2 k3 k5 : Option Value}
variable {rest : List Value} {kw : List (Str × Value)}
theorem check_newK (hT : ∀ T : String, bm.contains (.type T) = f.up.contains (.type T)) {Q : Unit → Shared → Prop} (hC : h.get? C = some (excClassObj nm q C N bs bm hdct sn sub ab col dd k0 k1 k2 k3 k5 f.mk)) (k : Q () ⟨h, g, d, t, os⟩) :
    wpAny (model prog w) A (checkBuiltinCall f.mk ⟨.ref C :: rest, kw⟩) Q E ⟨h, g, d, t, os⟩ := by
  have F := f.base
  have up : (Value.ref C :: bm).contains (.type f.nm) = true := by rw [List.contains_cons, hT, F.hasB, Bool.or_true]
  have star := F.noStar; simp only [checkBuiltinCall, F.newKind, F.newSplit, F.newRow]
  repeat (first | refine wpAny_loadPart_at hC ?_ | (refine wpAny_isSubtype_exc hC ?_; rw [up]) | refine wpAny_staticBase_exc hC ?_ | refine wpAny_madeBy_exc hC ?_ | simp only [bne_self_eq_false, Bool.false_eq_true, if_false] | wp_step)
  exact k
theorem newK (hT : ∀ T : String, bm.contains (.type T) = f.up.contains (.type T)) (hC : h.get? C = some (excClassObj nm q C N bs bm hdct sn sub ab col dd k0 k1 k2 k3 k5 f.mk)) (hl : rest.length ≤ sizeLine)
    (k : R (.ok (.ret (.ref (h.objs.size + 1)))) ⟨(h.push (PySem.W.kdv_tup rest)).push (PySem.HandSPX.excO C h.objs.size), g, d, t, os⟩) : codeAny (model prog w) A (.builtin f.mk ⟨.ref C :: rest, kw⟩) R ⟨h, g, d, t, os⟩ := by
  have F := f.base
  have ends := F.ends
  have upB : (Value.ref C :: bm).contains (.type f.nm) = true := by rw [List.contains_cons, hT, F.hasB, Bool.or_true]
  have upA : (Value.ref C :: bm).contains (.type "AttributeError") = false := by rw [List.contains_cons, hT, F.noAttr]; rfl
  have upN : (Value.ref C :: bm).contains (.type "NameError") = false := by rw [List.contains_cons, hT, F.noName]; rfl
  refine codeAny_builtinAt F.entry ?_; unfold Builtin.«BaseException.__new__»
  refine wpAt_bind (show PySem.wpAt _ _ _ (stack >>= _) _ _ _ from wpAt_bind (wpAt_stack fun p below => wpAt_of_wpAny ?_))
  wp_walk
  refine wpAt_of_wpAny ?_
  rw [F.owner]
  repeat (first | with_reducible refine wpAny_madeHere_exc F.canon hC ?_ | with_reducible refine wpAny_loadPart_at hC ?_ | (with_reducible refine wpAny_isSubtype_exc hC ?_; first | rw [upB] | rw [upA] | rw [upN]) | wp_step)
  show R _ _
  rw [Heap.size_push]
  exact k
end
end EV
set_option maxHeartbeats 2000000
namespace EV
open PySem PySem.Spec PyProof.Rows L2
section
open PySem.W
variable {K : PySem.W.Frag} {prog : Program} {w : World} {A : Around} {R : Result → Shared → Prop} {h : Heap} {g : Array GenState} {d : Drawn} {t : Nat} {os : OsState} {C fI : Addr} {f : Fam} {rest : List Value} {kw : List (Str × Value)}
theorem exc_call (X : K.In h) (T : ExB K f C) (hi : findIn K (.ref C) "__init__" = some (some (.ref fI))) (hf : typeIn K (.ref fI) = some (.type "function")) (hl : rest.length ≤ sizeLine)
    (k : codeAny (model prog w) (A.under (.builtin "type.__call__" ⟨.ref C :: rest, kw⟩)) (.call (.ref fI) ⟨.ref (h.objs.size + 1) :: rest, kw⟩) (InitBack (h.objs.size + 1) R) ⟨(h.push (kdv_tup rest)).push (PySem.HandSPX.excO C h.objs.size), g, d, t, os⟩) : codeAny (model prog w) A (.call (.ref C) ⟨rest, kw⟩) R ⟨h, g, d, t, os⟩ := by
  obtain ⟨nm, N, qn, bs, bm, hdct, sn, sub, ab, col, dd, k0, k1, k2, k3, k5, hC, hT⟩ := excInit_of X T.made
  have f1 := tc_lookup
  have f2 := tc_bind (.ref C)
  have ty : (⟨h, g, d, t, os⟩ : Shared).TypeIs (.ref C) "type" := ⟨_, hC, rfl⟩
  refine codeAny_of_tree (show wpAny _ _ (callAny (.ref C) _) _ _ _ from ?_); repeat (any_goals (first | assumption | with_reducible refine wpAny_loadPart_at hC ?_ | wp_step))
  refine ⟨rfl, show codeAny _ _ (.call (.builtin "type.__call__") ⟨.ref C :: rest, kw⟩) _ _ from ?_⟩
  have t0 : Looks (model prog w) h (typeOf (.ref C)) (.type "type") := (Looks.ld hC).andThen .now
  have typ : Looks (model prog w) h (isInstance (.ref C) (.type "type")) true := t0.andThen (Looks.of_pure tc_sub)
  refine codeAny_call_builtin_at (Code.quiet_builtin _ (by decide +kernel)) entry_typeCall (check_slot tc_kind tc_split typ (tc_args ..) ?_); unfold Builtin.«type.__call__»
  have mro : Looks (model prog w) h (mroOf (.ref C)) (.ref C :: bm) := ((Looks.ld (part := none) hC).andThen .now).andThen .now
  dsimp only
  rw [if_neg (by simp)]
  refine wpAny_bind (mro.at ?_)
  rw [if_neg (by simp)]
  refine wpAny_bind (wpAny_madeBy_exc hC ?_)
  dsimp only
  refine wpAny_bind (wpAny_pure (wpAny_bind (wpAny_holding (wpAny_call ?_))))
  refine codeAny_call_builtin_code (Code.quiet_builtin _ f.base.quiet) (check_newK hT hC (newK hT hC hl ?_))
  have kp : ∀ b o, h.get? b = some o → ((h.push (kdv_tup rest)).push (PySem.HandSPX.excO C h.objs.size)).get? b = some o := fun b o e => Heap.get?_push_of_some _ (Heap.get?_push_of_some _ e)
  have hx : ((h.push (kdv_tup rest)).push (PySem.HandSPX.excO C h.objs.size)).get? (h.objs.size + 1) = some (PySem.HandSPX.excO C h.objs.size) := by heap_get
  have t1 : Looks (model prog w) ((h.push (kdv_tup rest)).push (PySem.HandSPX.excO C h.objs.size)) (typeOf (.ref (h.objs.size + 1))) (.ref C) := (Looks.ld hx).andThen .now
  have s1 : Looks (model prog w) ((h.push (kdv_tup rest)).push (PySem.HandSPX.excO C h.objs.size)) (isSubtype (.ref C) (.ref C)) true := by
    refine Looks.keeps (h := h) ?_ kp
    exact mro.andThen (Looks.of_pure (by simp))
  have i1 := (looks_findIn (M := model prog w) X hi).keeps kp
  have b1 := (bind_fn (M := model prog w) X (.ref (h.objs.size + 1)) hf).keeps kp
  have i2 : Looks (model prog w) ((h.push (kdv_tup rest)).push (PySem.HandSPX.excO C h.objs.size)) (isInstance (.ref (h.objs.size + 1)) (.ref C)) true := t1.andThen s1
  refine wpAny_bind (i2.at ?_)
  rw [if_neg (by decide)]
  have sp : Looks (model prog w) ((h.push (kdv_tup rest)).push (PySem.HandSPX.excO C h.objs.size)) (specialOf (.ref (h.objs.size + 1)) "__init__") (some (.ref fI)) := t1.andThen i1
  refine wpAny_bind (wpAny_holding ?_); simp only [callSpecial?]
  refine wpAny_bind (sp.at ?_)
  dsimp only
  refine wpAny_holding (wpAny_bind (b1.at (wpAny_bind (wpAny_call (codeAny_mono k fun r s' z => ?_)))))
  rcases r with e | (v | _ | _ | _) <;> (first | exact z | exact z.elim | skip); obtain ⟨rfl, z⟩ := z
  exact wpAny_pure (by dsimp only; rw [if_neg (by decide)]; exact wpAny_pure z)
end
end EV
set_option maxHeartbeats 2000000
namespace EV
open PySem PySem.Spec PyProof.Rows L2
theorem zip_rev {α β : Type} : ∀ {xs : List α} {ys : List β}, xs.length = ys.length → xs.reverse.zip ys.reverse = (xs.zip ys).reverse
  | [], [], _ => rfl
  | [], _ :: _, l => by cases l
  | _ :: _, [], l => by cases l
  | x :: xs, y :: ys, l => by
    have l' : xs.length = ys.length := Nat.succ.inj l
    rw [List.reverse_cons, List.reverse_cons, List.zip_append (by simp [l']), zip_rev l']
    exact (List.reverse_cons (a := (x, y)) (as := xs.zip ys)).symm
section
variable {C : Ctx} {ρ : RhoT} {H H' : Hp} {hd : Hd}
/-- a new error, as the heap has it, behind its making -/
theorem exn_new {c : Nat} {fs : List Str} {ds : List D} {vs : List V} {a dx : Addr} (sh : SimH C ρ H hd) (r : RelL C ρ H ds vs) (hl : fs.length = ds.length) (ha : H a = none) (hdx : H dx = none) (hne : dx ≠ a)
    (e1 : H' a = some (exo a (C.ca c) (some dx))) (e2 : H' dx = some (exd dx (fs.zip vs).reverse)) (e3 : ∀ b, b ≠ a → b ≠ dx → H' b = H b) :
    Ext ρ ρ H H' ∧ SimH C ρ H' hd ∧ Rel C ρ H' (.exn c fs.reverse ds.reverse) (.ref a) := by
  obtain rfl : H' = upd (upd H a (exo a (C.ca c) (some dx))) dx (exd dx (fs.zip vs).reverse) := funext fun b => by
    by_cases q1 : b = dx
    · rw [q1, upd_same, e2]
    · rw [upd_ne q1]
      by_cases q2 : b = a
      · rw [q2, upd_same, e1]
      · rw [upd_ne q2, e3 b q2 q1]
  have x1 : Ext ρ ρ H (upd H a (exo a (C.ca c) (some dx))) := Ext.upd_new ha
  have s1 := sh.upd_new (o := exo a (C.ca c) (some dx)) ha
  have h2 : upd H a (exo a (C.ca c) (some dx)) dx = none := by rw [upd_ne hne]; exact hdx
  have x2 := Ext.upd_new (ρ := ρ) (o := exd dx (fs.zip vs).reverse) h2
  have s2 := s1.upd_new (o := exd dx (fs.zip vs).reverse) h2
  refine ⟨x1.trans x2, s2, ?_⟩
  have r2 := relL_rev (RelL.ext (x1.trans x2) _ _ r)
  have lv := r.length
  simp only [Rel]
  refine ⟨a, _, rfl, sh.unm ha, r2, by simp [hl], .inr ⟨dx, e1, ?_, sh.unm hdx⟩⟩
  rw [upd_same, zip_rev (hl.trans lv)]
end
/-- the own error class x of the number c: its attributes -/
structure ErrOk (C : Ctx) (P : Program) (w : World) (mg : Str → Option Value) (base : Heap) (k : Nat) (x : Str) (c : Nat) (fs : List Str) : Prop where
  ex : ∃ (fm : Fam) (fI : Addr) (fd : FuncData) (ps : List Str), mg x = some (.ref (C.ca c)) ∧ ExB C.K fm (C.ca c) ∧ PySem.W.findIn C.K (.ref (C.ca c)) "__init__" = some (some (.ref fI)) ∧ PySem.W.typeIn C.K (.ref fI) = some (.type "function") ∧
    (∀ g ∈ fs, PySem.W.findIn C.K (.ref (C.ca c)) g = some none) ∧ FnG P w C.K mg base CX0 k fI fd ps (spY C.K fm fs) ∧ Binds C.K fd ps [] ∧ ps.length = fs.length + 1
/-- .. by keywords alone -/
structure ErrKw (C : Ctx) (P : Program) (w : World) (mg : Str → Option Value) (base : Heap) (k : Nat) (x : Str) (c : Nat) (fs ks : List Str) (js : List Nat) : Prop where
  ex : ∃ (fm : Fam) (fI : Addr) (fd : FuncData) (ps : List Str) (g : List Value → List Value → List Value) (gV : List V → List V → List V), mg x = some (.ref (C.ca c)) ∧ ExB C.K fm (C.ca c) ∧ PySem.W.findIn C.K (.ref (C.ca c)) "__init__" = some (some (.ref fI)) ∧
    PySem.W.typeIn C.K (.ref fI) = some (.type "function") ∧ (∀ g ∈ fs, PySem.W.findIn C.K (.ref (C.ca c)) g = some none) ∧ FnG P w C.K mg base CX0 k fI fd ps (spY C.K fm fs) ∧ KBn C.K fd ps 1 ks g gV ∧
    ∀ (x : V) (zs : List V), zs.length = ks.length → gV [x] zs = x :: permL js zs
def mexn (c : Nat) (fs : List Str) (ms : M (List D)) : M D := fun env h => (ms env h).bind fun ds h1 => if ds.length = fs.length then .ok (.exn c fs.reverse ds.reverse) h1 else .bad
def mexnK (c : Nat) (fs : List Str) (m : Nat) (js : List Nat) (mk : M (List D)) : M D := fun env h => (mk env h).bind fun zs h1 => if zs.length = m ∧ (permL js zs).length = fs.length then .ok (.exn c fs.reverse (permL js zs).reverse) h1 else .bad
def mexn0 (c : Nat) (m : M D) : M D := fun env h => (m env h).bind fun _ h1 => .ok (.exn c [] []) h1
section
variable {X : L2.Cx} {C : Ctx} {W : WX} {e : Expr} {es : List Expr} {kws : List Keyword} {ms mk : M (List D)} {m : M D} {p pos : Pos} {x : Str} {c j k : Nat} {fs ks : List Str} {js : List Nat}
/-- what is known at the end of the making -/
theorem made_end {pins : List (Addr × Obj)} {σ : L2.St} {H : Hp} {s : Shared} {Q : VK} {D fI : Addr} {fm : Fam} {us : List Value} {kw : List (Str × Value)} {vs : List V} {fd : FuncData} {ps : List Str} {as : List Value}
    (T : ExB X.K fm D) (iC : PySem.W.findIn X.K (.ref D) "__init__" = some (some (.ref fI))) (tI : PySem.W.typeIn X.K (.ref fI) = some (.type "function")) (hf : ∀ g ∈ fs, PySem.W.findIn X.K (.ref D) g = some none)
    (F : FnG X.prog X.w X.K X.mg X.base CX0 k fI fd ps (spY X.K fm fs)) (hr : RoomG (k + 1) X.A) (hu : us.length ≤ sizeLine) (I : Inv X pins σ H s) (hl : vs.length = fs.length)
    (hb : ∀ s', X.K.In s'.heap → BindsTo s' fd ⟨.ref (s.heap.objs.size + 1) :: us, kw⟩ (ps.zip (.ref (s.heap.objs.size + 1) :: as))) (rv : Vals vs as)
    (q : ∀ a dx H', H a = none → H dx = none → dx ≠ a → H' a = some (exo a D (some dx)) → H' dx = some (exd dx (fs.zip vs).reverse) → (∀ b, b ≠ a → b ≠ dx → H' b = H b) → Q (.ref a) H') :
    wpAny (model X.prog X.w) X.A (call (.ref D) us kw) (EP X pins σ Q) X.xe s := by
  obtain ⟨hp, g, dr, tk, os⟩ := s; have hn : H (hp.objs.size + 1) = none := I.hok.fresh (Nat.le_succ _)
  have hget : ((hp.push (PySem.W.kdv_tup us)).push (PySem.HandSPX.excO D hp.objs.size)).get? (hp.objs.size + 1) = some (PySem.HandSPX.excO D hp.objs.size) := by heap_get
  have I2 : Inv X pins σ (upd H (hp.objs.size + 1) (exo (hp.objs.size + 1) D none)) ⟨(hp.push (PySem.W.kdv_tup us)).push (PySem.HandSPX.excO D hp.objs.size), g, dr, tk, os⟩ :=
    Inv.laid (s := ⟨hp, g, dr, tk, os⟩) (t' := tk) I (fun b o e => Heap.get?_push_of_some _ (Heap.get?_push_of_some _ e)) (Nat.le_succ _) (exo_ok hget)
  refine wpAny_call (exc_call I.kIn T iC tI hu (codeAny_mono (F.runs _ X.stack _ _ ⟨.ref (hp.objs.size + 1) :: us, kw⟩ (.ref (hp.objs.size + 1) :: as) (.ref (hp.objs.size + 1) :: vs) (fun v H2 => v = .non ∧ Q (.ref (hp.objs.size + 1)) H2) (fun _ _ _ => False)
    ⟨hr.room.make D us kw, hr.quiet⟩ (I2.env0.make D us kw) (hb _ I2.kIn) (.cons rfl rv) ⟨_, D, vs, rfl, hl, T, hf, upd_same .., fun dx H' h1 h2 e1 e2 e3 => ⟨rfl, ?_⟩⟩) fun r s' hq => ?_))
  · rw [upd_ne h2] at h1
    exact q _ dx H' hn h1 h2 e1 e2 fun b b1 b2 => by rw [e3 b b1 b2, upd_ne b1]
  · cases r with
    | error er => exact pass0 pins σ _ _ er s' I2 hq
    | ok fl =>
      cases fl with
      | ret u =>
        obtain ⟨v, H', I3, rv', ev, q3⟩ := I2.after hq
        subst ev
        exact ⟨rv', ⟨V.ref (hp.objs.size + 1), H', I3, rfl, q3⟩⟩
      | next => exact False.elim hq
      | brk => exact False.elim hq
      | cont => exact False.elim hq
theorem ev_exn (hK : X.K = C.K) (ok : ErrOk C X.prog X.w X.mg X.base j x c fs) (hr : RoomG k X.A) (hj : decide (j + 1 ≤ k) = true) (hg : X.env.kindOf x = some .globalImplicit) (ha : PA X (e :: es) (tL C W ms)) (hlen : fs.length ≤ 9)
    (hdb : (x == ("__debug__" : Str)) = false) (hs : noStars (e :: es) = true) : PE X (.Call (.Name x p) (e :: es) [] pos) (tE C W (mexn c fs ms)) := by
  obtain ⟨fm, fI, fd, ps, hm, T, iC, tI, hf, F, b, hp⟩ := ok.ex
  rw [← hK] at T iC tI hf F b
  have hs' : notStar e = true ∧ noStars es = true := by unfold noStars at hs; rwa [Bool.and_eq_true] at hs
  refine ⟨fun pins s σ H Q I ⟨ρ, env, hd, er, sh, q⟩ => ?_⟩
  refine wpAny_Call_Name_kw (ld_glob I hg hm ?_ hdb); refine PySem.W.callWith_K (h₀ := X.base) I.ok.mod.kin T.kp (thn (ha.run pos pins s σ H _ I (seqL (Q' := fun vs H1 => ∃ ρ1 hd1 ds, Ext ρ ρ1 H H1 ∧ SimH C ρ1 H1 hd1 ∧ RelL C ρ1 H1 ds vs ∧
    PostX C (Rel C) ρ1 H1 (fun c d H' => W c d σ H') Q (if ds.length = fs.length then .ok (.exn c fs.reverse ds.reverse) hd1 else .bad)) er sh q fun vs H1 ρ1 hd1 ds x1 er1 sh1 r1 q1 => ⟨ρ1, hd1, ds, x1, sh1, r1, q1⟩))
    fun us s1 ⟨vs, H1, I1, r, ρ1, hd1, ds, x1, sh1, r1, q1⟩ => ⟨I1.kIn, ?_⟩) (starEach_at hs'.1) (plain_of hs'.2)
  split at q1
  · rename_i hl
    have lv := r1.length
    have lu := Paired.length r
    refine made_end T iC tI hf F (hr.weak (of_decide_eq_true hj)) (by rw [sizeLine_eq, List.nil_append]; omega) I1 (vs := vs) (as := us) (by omega) (fun s' X' => ?_) r fun a dx H' h1 h2 h3 e1 e2 e3 => ?_
    · have bb := b s' (.ref (s1.heap.objs.size + 1) :: us) X' (by rw [List.append_nil, List.length_cons]; omega)
      rwa [List.append_nil] at bb
    obtain ⟨x2, sh2, r2⟩ := exn_new sh1 r1 hl.symm h1 h2 h3 e1 e2 e3
    exact q1 _ _ _ x2 sh2 r2
  · exact q1.elim
theorem ev_exnK (hK : X.K = C.K) (ok : ErrKw C X.prog X.w X.mg X.base j x c fs ks js) (hr : RoomG k X.A) (hj : decide (j + 1 ≤ k) = true) (hg : X.env.kindOf x = some .globalImplicit) (hk : PK X kws (tL C W mk))
    (hall : (backToKw pos (keywordEach kws X.env)).all (·.1.isSome) = true) (hks : (backToKw pos (keywordEach kws X.env)).filterMap (·.1) = ks) (hno : (backToKw pos (keywordEach kws X.env)).any (·.1.isNone) = false)
    (hdb : (x == ("__debug__" : Str)) = false) : PE X (.Call (.Name x p) [] kws pos) (tE C W (mexnK c fs ks.length js mk)) := by
  obtain ⟨fm, fI, fd, ps, g, gV, hm, T, iC, tI, hf, F, b, hg2⟩ := ok.ex
  rw [← hK] at T iC tI hf F b
  refine ⟨fun pins s σ H Q I ⟨ρ, env, hd, er, sh, q⟩ => ?_⟩
  refine wpAny_Call_Name_kw (ld_glob I hg hm ?_ hdb); refine PySem.W.callWith_KW0 (first := []) (h₀ := X.base) I.ok.mod.kin T.kp hall (thn (hk.run pos pins s σ H _ I (seqL (Q' := fun vs H1 => ∃ ρ1 hd1 ds, Ext ρ ρ1 H H1 ∧ SimH C ρ1 H1 hd1 ∧ RelL C ρ1 H1 ds vs ∧
    PostX C (Rel C) ρ1 H1 (fun c d H' => W c d σ H') Q (if ds.length = ks.length ∧ (permL js ds).length = fs.length then .ok (.exn c fs.reverse (permL js ds).reverse) hd1 else .bad)) er sh q fun vs H1 ρ1 hd1 ds x1 er1 sh1 r1 q1 => ⟨ρ1, hd1, ds, x1, sh1, r1, q1⟩))
    fun ws s1 ⟨zs, H1, I1, r, ρ1, hd1, ds, x1, sh1, r1, q1⟩ => ⟨I1.kIn, ?_⟩) hno
  rw [hks]
  split at q1
  · rename_i hl
    obtain ⟨hl, hl2⟩ := hl
    have lv := r1.length
    have lu := Paired.length r
    have rp := relL_perm r1 js
    have full := b.rel (vs := [.ref (s1.heap.objs.size + 1)]) (us := [.ref (s1.heap.objs.size + 1)]) (.cons rfl .nil) r
    rw [hg2 _ _ (by omega)] at full
    obtain ⟨as, e, ra⟩ : ∃ as, g [.ref (s1.heap.objs.size + 1)] ws = .ref (s1.heap.objs.size + 1) :: as ∧ Vals (permL js zs) as := by
      generalize g [Value.ref (s1.heap.objs.size + 1)] ws = l at full
      cases full with
      | cons h1 h2 => exact ⟨_, congrArg (· :: _) h1, h2⟩
    refine made_end (us := []) T iC tI hf F (hr.weak (of_decide_eq_true hj)) (by simp) I1 (vs := permL js zs) (as := as) (by rw [← rp.length, hl2]) (fun s' X' => ?_) ra fun a dx H' h1 h2 h3 e1 e2 e3 => ?_
    · have bb := b.to s' [.ref (s1.heap.objs.size + 1)] ws X' rfl (by omega)
      rwa [e] at bb
    obtain ⟨x2, sh2, r2⟩ := exn_new sh1 rp hl2.symm h1 h2 h3 e1 e2 e3
    exact q1 _ _ _ x2 sh2 r2
  · exact q1.elim
end
end EV
set_option maxHeartbeats 2000000
namespace EV
open PySem PySem.Spec PyProof.Rows L2
section
variable {X : L2.Cx} {C : Ctx} {W : WX} {e t : Expr} {m : M D} {p pos : Pos} {x f : Str} {c : Nat}
/-- an error whose class has no __init__ of its own, with one value -/
theorem ev_exn0 (fm : Fam) (hK : X.K = C.K) (hq : PySem.W.excIn C.K (C.ca c) fm.up fm.mk = true) (hm : X.mg x = some (.ref (C.ca c))) (hk : PySem.W.keepIn C.K (.ref (C.ca c)) = true) (hg : X.env.kindOf x = some .globalImplicit) (he : PE X e (tE C W m))
    (hs : starEach [e] X.env = (false, eval e X.env) :: starEach [] X.env) (hdb : (x == ("__debug__" : Str)) = false) : PE X (.Call (.Name x p) [e] [] pos) (tE C W (mexn0 c m)) :=
  weakE (pe_exc1 fm.base (by rw [hK]; exact hq) hm (by rw [hK]; exact hk) hg he hs hdb) fun σ H Q ⟨ρ, env, hd, er, sh, q⟩ => seqE er sh q fun v H1 ρ1 hd1 d x1 er1 sh1 r1 q1 a ha => by
    refine q1 ρ1 _ _ (Ext.upd_new ha) (sh1.upd_new ha) ?_
    simp only [Rel]
    exact ⟨a, [], rfl, sh1.unm ha, RelL.nil, by trivial, .inl ⟨by trivial, upd_same ..⟩⟩
/-- e.f, of an error of one of the classes cs -/
def mxfld (cs : List Nat) (f : Str) (m : M D) : M D := fun env h => (m env h).bind fun d h1 => match d with
  | .exn c fs ds => if c ∈ cs then (match getS f fs ds with | some x => .ok x h1 | none => .bad) else .bad
  | _ => .bad
theorem ev_xfld {cs : List Nat} (hK : X.K = C.K) (hT : ∀ c ∈ cs, XfC C.K (C.ca c) ∧ PySem.W.findIn C.K (.ref (C.ca c)) f = some none) (he : PE X e (tE C W m)) (hb : attributeBase e f X.env (eval e X.env) = eval e X.env) : PE X (.Attribute e f pos) (tE C W (mxfld cs f m)) := by
  refine ⟨fun pins s σ H Q I ⟨ρ, env, hd, er, sh, q⟩ => ?_⟩
  refine attr_of hb (thn (he.run pins s σ H _ I (seqE (Q' := fun v H1 => ∃ ρ1 hd1 d, SimH C ρ1 H1 hd1 ∧ Rel C ρ1 H1 d v ∧ PostX C (Rel C) ρ1 H1 (fun c d H' => W c d σ H') Q _) er sh q fun v H1 ρ1 hd1 d x1 er1 sh1 r1 q1 => ⟨ρ1, hd1, d, sh1, r1, q1⟩)) fun u s1 hh => ?_)
  obtain ⟨v, H1, I1, rv, ρ1, hd1, d, sh1, r1, q1⟩ := hh
  split at q1
  · rename_i c fs ds
    split at q1
    · rename_i hc
      split at q1
      · rename_i y hy
        obtain ⟨T, hno⟩ := hT c hc
        rw [← hK] at T hno
        simp only [Rel] at r1
        obtain ⟨a, vs, rfl, _, rl, hl, w⟩ := r1
        obtain rfl : u = Value.ref a := rv
        obtain ⟨z, e1, r2⟩ := getS_rel rl hl hy
        rcases w with ⟨rfl, _⟩ | ⟨dx, ha, hdx, _⟩
        · cases ds <;> cases hy
        · obtain ⟨t1, at1⟩ := exo_at I1.hok ha
          obtain ⟨mA, ns, rel⟩ := exd_at I1.hok hdx
          obtain ⟨od, ho, lk⟩ := lookIn_ns ns
          obtain ⟨u2, hu, ru⟩ := RelO.some_of (v := z) (o := mA f) (by rw [← e1]; exact rel f)
          have J : PySem.W.InstAt s1.heap a _ (C.ca c) (some od) := ⟨at1, rfl, rfl, ho⟩
          exact PySem.HandSPX.exc_get I1.kIn J T.ga T.gg T.exC (PySem.W.findObj_own T.hdC hno rfl (by rw [lk, hu])) (handed_of ru) ⟨z, H1, I1.tok _, ru, q1.here sh1 r2⟩
      · exact q1.elim
    · exact q1.elim
  · exact q1.elim
def isChk (K : PySem.W.Frag) (ca : Nat → Addr) (cv : Value) (tb : List (Nat × Bool)) : Bool := tb.all fun p => PySem.W.kitOne K (.ref (ca p.1)) cv == some p.2
def exkB (K : PySem.W.Frag) (D : Addr) : Bool := (PySem.W.clsIn K D).isSome && (decide (PySem.W.findIn K (.ref D) "__getattribute__" = some (some (.builtin "BaseException.__getattribute__"))) && (decide (PySem.W.findIn K (.ref D) "__getattr__" = some none) &&
  (decide (PySem.W.subIn K (.ref D) (.type "BaseException") = some true) && (decide (PySem.W.findIn K (.ref D) "__class__" = some (some (.builtin "object.__class__"))) && decide (PySem.W.mroIn K D (.type "object") = some true)))))
theorem exkB_ok {K : PySem.W.Frag} {D : Addr} (h : exkB K D = true) (h1 : PySem.W.specialIn K (.builtin "object.__class__") "__get__" = some (some (.builtin "getset_descriptor.__get__"))) (h2 : PySem.W.takesIn K (.builtin "object.__class__") = some true) : ExcK K D := by
  unfold exkB at h; simp only [Bool.and_eq_true, decide_eq_true_eq] at h
  obtain ⟨a1, a2, a3, a4, a5, a6⟩ := h
  exact ⟨a1, a2, a3, a4, a5, h1, h2, a6⟩
/-- isinstance(e, T), e an error: by its class -/
def misx (tb : List (Nat × Bool)) (m : M D) : M D := fun env h => (m env h).bind fun d h1 => match d with
  | .exn c _ _ => (match tb.lookup c with | some b => .ok (.bl b) h1 | none => .bad)
  | _ => .bad
theorem lookup_mem {tb : List (Nat × Bool)} {c : Nat} {b : Bool} (h : tb.lookup c = some b) : (c, b) ∈ tb := by
  induction tb with
  | nil => cases h
  | cons p tb ih =>
    obtain ⟨i, z⟩ := p
    rw [List.lookup_cons] at h
    split at h
    · rename_i e
      cases h
      rw [eq_of_beq e]
      exact List.mem_cons_self
    · exact List.mem_cons_of_mem _ (ih h)
theorem ev_isx {tb : List (Nat × Bool)} {v : V} {cv : Value} (hK : X.K = C.K) (hT : ∀ p ∈ tb, ExcK C.K (C.ca p.1)) (ck : isChk C.K C.ca cv tb = true) (hcv : ∀ u, RelV v u → u = cv) (he : PE X e (tE C W m)) (ht : PE X t (tC v)) (hm : X.mg "isinstance" = none) (hg : X.env.kindOf "isinstance" = some .globalImplicit)
    (hs : noStars [e, t] = true) : PE X (.Call (.Name "isinstance" p) [e, t] [] pos) (tE C W (misx tb m)) := by
  have h2 := hs
  unfold noStars at h2
  rw [Bool.and_eq_true] at h2
  have h3 := h2.2
  unfold noStars at h3
  rw [Bool.and_eq_true] at h3
  have arg : PA X [e, t] (fun σ H Q => tE C W m σ H fun x H1 => Q [x, v] H1) := pa_cons he (pa_cons ht pa_nil (starEach_at h3.1)) (starEach_at h2.1)
  have rule : CallR X (.builtin "isinstance") (fun xs H Q => ∃ ρ1 hd1 d w, xs = [w, v] ∧ SimH C ρ1 H hd1 ∧ Rel C ρ1 H d w ∧ PostX C (Rel C) ρ1 H (fun _ _ _ => False) Q (match d with
      | .exn c _ _ => (match tb.lookup c with | some b => .ok (.bl b) hd1 | none => .bad)
      | _ => .bad)) := by
    intro pins s σ H xs us Q I r ⟨ρ1, hd1, d, w, ex, sh1, r1, q1⟩
    subst ex
    match r with
    | .cons ra (.cons rb .nil) =>
      rw [hcv _ rb]
      split at q1
      · rename_i c fs ds
        split at q1
        · rename_i b hb
          have hp := lookup_mem hb
          have T := hT _ hp
          have kt : PySem.W.kitOne C.K (.ref (C.ca c)) cv = some b := by
            unfold isChk at ck
            rw [List.all_eq_true] at ck
            exact eq_of_beq (ck _ hp)
          rw [← hK] at T kt
          simp only [Rel] at r1
          obtain ⟨a, vs, rfl, _, rl, hl, o⟩ := r1
          obtain rfl := ra
          have fin : ∀ {oe : Obj} {od : Option Obj}, PySem.W.InstAt s.heap a oe (C.ca c) od → wpAny (model X.prog X.w) X.A (call (.builtin "isinstance") [.ref a, cv]) (EP X pins σ Q) X.xe s := fun {oe od} inst =>
            PySem.W.kia_one (PySem.W.kitx_exc T.isC T.ga T.gt T.sub T.cl T.get T.tk T.mro) I.kIn inst kt (fun z => nomatch z) fun tk => ⟨.bl b, H, I.kept (t' := tk) fun _ _ z => z, rfl, q1.here sh1 rel_bl⟩
          rcases o with ⟨_, ha⟩ | ⟨dx, ha, hdx, _⟩
          · obtain ⟨⟨oe, fv, ho, hz, hd, _⟩, _⟩ : ObjOk X.prog X.w H s.heap a (ExO (.ref (C.ca c)) a) := I.hok a _ ha
            exact fin (od := none) ⟨ho, hz.1, by unfold PySem.W.notCls; rw [hd] <;> rfl, by rw [hz.2]; trivial⟩
          · obtain ⟨t1, at1⟩ := exo_at I.hok ha
            obtain ⟨mA, ns, rel⟩ := exd_at I.hok hdx
            obtain ⟨od, ho, lk⟩ := lookIn_ns ns
            exact fin (od := some od) ⟨at1, rfl, rfl, ho⟩
        · exact q1.elim
      · exact q1.elim
  refine weakE (pe_callB rule hg hm (by rfl) arg (by decide) (by decide) (starEach_at h2.1) (plain_of h2.2)) fun σ H Q ⟨ρ, env, hd, er, sh, q⟩ => ?_
  exact seqE er sh q fun w H1 ρ1 hd1 d x1 er1 sh1 r1 q1 => ⟨ρ1, hd1, d, w, rfl, sh1, r1, by
    revert q1
    split
    · split
      · exact fun z => z
      · exact fun z => z.elim
    · exact fun z => z.elim⟩
end
end EV
set_option maxHeartbeats 2000000
namespace EV
open PySem PySem.Spec PyProof.Rows L2
/-- how many of the first ones hold -/
def trues (val : Nat → Bool) : Nat → Nat
  | 0 => 0
  | j + 1 => trues val j + (if val j then 1 else 0)
theorem trues_succ (val : Nat → Bool) (j : Nat) : trues val (j + 1) = trues val j + (if val j then 1 else 0) := rfl
theorem trues_le (val : Nat → Bool) : ∀ j, trues val j ≤ j
  | 0 => Nat.le_refl _
  | j + 1 => by
    have := trues_le val j
    rw [trues_succ]
    split <;> omega
section
variable {prog : Program} {w : World} {A : Around} {R : Result → Shared → Prop} {E : Value → Shared → Prop} {I S : Addr} {fp wr : List Addr} {n : Nat} {P : Nat → Value → Prop} {St : Nat → Heap → Prop} {val : Nat → Bool}
theorem sum_turns (W : Walks prog w A.in1 I fp wr n P St) (hval : ∀ i v, P i v → v = .bool (val i)) (hS : S ∉ fp) (hn : n ≤ 100000) : ∀ (k i : Nat) (s : Shared) (tA : Tok) (c : Nat), i + k = n → St i s.heap →
    s.heap.get? S = some { cls := .type "list", dict := none, data := .seq #[.int (trues val i) tA] c, slots := #[] } →
    (∀ h' tk t', (∀ b o, b ∉ wr → b ≠ S → s.heap.get? b = some o → h'.get? b = some o) → R (.ok (.ret (.int (trues val n) t'))) { s with heap := h', toks := tk }) →
    codeAny (model prog w) A (.builtin "sum.loop" ⟨[.ref I, .ref S, rawInt 0, rawInt 0], []⟩) R s
  | 0, i, s, tA, c, hk, st, at0, out => by
    obtain rfl : i = n := by omega
    refine codeAny_builtin F.entry_sum_loop ?_; rw [Around.under_plainId F.plain_sum_loop _]
    refine show wpAny _ A.in1 (seqItems? (.ref S) >>= _) _ _ s from wpAny_bind (wpAny_seqItems at0 rfl ?_)
    refine show wpAny _ A.in1 (tryCatch (pyNext (.ref I)) _ >>= _) _ _ s from wpAny_bind (wpAny_tryCatch (W.done s _ _ st fun h' tk q => wpAny_pure (out h' tk tA fun b o b1 _ e => q b o b1 e)))
  | k + 1, i, s, tA, c, hk, st, at0, out => by
    refine codeAny_builtin F.entry_sum_loop ?_; rw [Around.under_plainId F.plain_sum_loop _]
    refine show wpAny _ A.in1 (seqItems? (.ref S) >>= _) _ _ s from wpAny_bind (wpAny_seqItems at0 rfl ?_)
    refine show wpAny _ A.in1 (tryCatch (pyNext (.ref I)) _ >>= _) _ _ s from wpAny_bind (wpAny_tryCatch (W.item i s _ _ (by omega) st fun v h' tk hP st' q => ?_))
    obtain rfl := hval i v hP
    have Sw : S ∉ wr := fun z => hS (W.sub _ z)
    have at1 := q S _ Sw at0
    have le := trues_le val i
    have inc : ((trues val i : Nat) : Int) + (if val i = true then 1 else 0) = ((trues val (i + 1) : Nat) : Int) := by
      rw [trues_succ]
      split <;> simp
    have fit : ((decide (-(2 ^ 63) ≤ (if val i = true then (1 : Int) else 0)) && decide ((if val i = true then (1 : Int) else 0) < 2 ^ 63)) &&
        (decide (-(2 ^ 63) ≤ ((trues val i : Nat) : Int) + (if val i = true then 1 else 0)) && decide (((trues val i : Nat) : Int) + (if val i = true then 1 else 0) < 2 ^ 63))) = true := by
      simp only [Bool.and_eq_true, decide_eq_true_eq]; split <;> omega
    show wpAny _ A.in1 (if (_ : Bool) = true then (mkInt (((trues val i : Nat) : Int) + (if val i = true then 1 else 0)) >>= _) else _) _ _ _
    generalize (if val i = true then (1 : Int) else 0) = z at inc fit ⊢
    split
    case isFalse neg => exact absurd fit neg
    rw [inc]
    refine wpAny_bind (wpAny_mkInt (show wpAny _ A.in1 (updateSeq S (fun _ => #[.int (trues val (i + 1) : Nat) tk]) >>= _) _ _ _ from wpAny_bind ?_))
    refine wpAny_updateSeq at1 rfl (wpAny_pure ⟨plainId_quiet F.plain_sum_loop _, sum_turns W hval hS hn k (i + 1) _ tk _ (by omega) (W.frame _ _ _ st' fun b hb o e => ?_) (Heap.get?_update_self _ at1 rfl) fun h2 tk2 t2 q2 => ?_⟩)
    · exact (Heap.get?_update_other _ _ (fun z : S = b => hS (z ▸ hb))).trans e
    · exact out h2 tk2 t2 fun b o b1 b2 e => q2 b o b1 b2 ((Heap.get?_update_other _ _ (Ne.symm b2)).trans (q b o b1 e))
theorem sum_bools {s : Shared} {x : Value} {Q : Value → Shared → Prop}
    (h : wpAny (model prog w) A.in1 (pyIter x) (fun it s2 => ∃ I fp wr n P St val, it = .ref I ∧ Walks prog w A.in1 I fp wr n P St ∧ St 0 s2.heap ∧ (∀ b ∈ fp, b < s2.heap.objs.size) ∧ (∀ i v, P i v → v = .bool (val i)) ∧ n ≤ 100000 ∧
      ∀ h' tk t', (∀ b o, b ∉ wr → s2.heap.get? b = some o → h'.get? b = some o) → Q (.int (trues val n) t') { s2 with heap := h', toks := tk }) E s) : wpAny (model prog w) A (call (.builtin "sum") [x]) Q E s := by
  refine call_function_tree F.kind_sum F.plain_sum F.entry_sum (F.args_sum1 _) ?_; unfold Builtin.«sum»
  simp only [List.length_cons, List.length_nil]; rw [if_neg (by decide)]
  refine wpAny_bind (wpAny_of_eq (show Builtin.Builtins.bindParams "sum" ["start"] 0 {} = pure [none] from rfl) (wpAny_bind (wpAny_mono h (fun it s2 h2 => ?_) fun _ _ e => e)))
  obtain ⟨I, fp, wr, n, P, St, val, rfl, W, st, hfp, hval, hn, out⟩ := h2
  refine wpAny_bind (wpAny_mkInt (wpAny_bind (wpAny_pure ?_)))
  simp only [List.forIn_cons, List.forIn_nil]; refine wpAny_bind (wpAny_bind (wpAny_bind (wpAny_isInstance (T := "int") (b := false) (typeIs_int ..) PySem.sub_int_str ?_)))
  simp only [Bool.false_eq_true, if_false]; refine wpAny_pure (wpAny_bind (wpAny_bind (wpAny_isInstance (T := "int") (b := false) (typeIs_int ..) PySem.sub_int_bytes ?_)))
  simp only [Bool.false_eq_true, if_false]; refine wpAny_pure (wpAny_bind (wpAny_bind (wpAny_isInstance (T := "int") (b := false) (typeIs_int ..) PySem.sub_int_bytearray ?_)))
  simp only [Bool.false_eq_true, if_false]; refine wpAny_pure (wpAny_pure (wpAny_bind (wpAny_newObj_type (wpAny_pure ⟨plainId_quiet F.plain_sum_loop _, sum_turns W hval (fun z => Nat.lt_irrefl _ (hfp _ z)) hn n 0 _ s2.toks 0 (by omega) (W.frame _ _ _ st fun b _ o e => Heap.get?_push_of_some _ e)
    (Heap.get?_push_size _ rfl) fun h' tk t' q => out h' tk t' fun b o b1 e => q b o b1 (Nat.ne_of_lt (Heap.lt_size e)) (Heap.get?_push_of_some _ e)⟩))))
end
def fSumB : OpN
  | [d], h => match lstOf d h with
    | some xs => (blsOf xs).bind fun bs => if bs.length ≤ 100000 then some (.v (.int (bs.countP (· = true) : Nat))) else none
    | none => none
  | _, _ => none
theorem trues_count : ∀ (bs : List Bool) (val : Nat → Bool), (∀ i b, bs[i]? = some b → val i = b) → ∀ j, j ≤ bs.length → trues val j = (bs.take j).countP (· = true)
  | bs, val, hv, 0, _ => by simp [trues]
  | bs, val, hv, j + 1, hj => by
    have hj' : j < bs.length := hj
    rw [List.take_succ, List.getElem?_eq_getElem hj', List.countP_append, ← trues_count bs val hv j (Nat.le_of_lt hj'), trues_succ]
    rw [hv j bs[j] (List.getElem?_eq_getElem hj')]
    cases bs[j] <;> simp
section
variable {X : L2.Cx} {C : Ctx}
theorem fn_sumB (hK : X.K = C.K) (hc : X.calm = true) : CallR X (.builtin "sum") (rON C fSumB) := by
  intro pins s σ H xs us Q I r ⟨ρ, hd, ds, sh, rl, p⟩
  unfold fSumB at p
  split at p
  · split at p
    · rename_i ys e
      obtain ⟨v, rfl, r1⟩ := relL1 rl
      cases hb : blsOf ys with
      | none => rw [hb] at p; exact p.elim
      | some bs =>
        rw [hb, Option.bind_some] at p
        split at p
        · rename_i hle
          obtain ⟨a, vs, rfl, t, rl2, z⟩ := lst_of sh r1 e
          cases bls_of hb rl2
          obtain ⟨its, rv, hl, _⟩ := I.list (.of t)
          rw [Vals.ref1 r]
          have eb := Vals.bls rv
          have lt : a < s.heap.objs.size := by
            obtain ⟨_, q, _⟩ := hl.isList
            exact Heap.lt_size q
          refine sum_bools (wpAny_pyIter_list hl.isList ?_)
          have li : (s.heap.push { cls := .type "list_iterator", data := .fields #[.ref a, .int 0 0] }).IsListIter s.heap.objs.size a 0 := ⟨_, Heap.get?_push_size _ rfl, rfl, rfl⟩
          refine ⟨_, _, _, _, _, _, fun i => bs.getD i false, rfl, Walks.list (A := X.A.in1) (I.ok.hd hc) _ a (Nat.ne_of_lt lt) its.toArray, ⟨li, hl.isList.push _⟩, fun b hb' => ?_, fun i v hv => ?_, ?_, fun h' tk t' q => ?_⟩
          · show b < (s.heap.push _).objs.size; rw [Heap.size_push]
            rcases List.mem_cons.mp hb' with z | z
            · rw [z]; exact Nat.lt_succ_self _
            · rw [List.mem_singleton.mp z]; exact Nat.lt_succ_of_lt lt
          · rw [eb] at hv
            simp only [List.getElem?_toArray, List.getElem?_map, Option.map_eq_some_iff] at hv
            obtain ⟨b, h1, h2⟩ := hv
            rw [← h2]
            show Value.bool b = Value.bool (bs.getD i false)
            rw [List.getD_eq_getElem?_getD, h1]
            rfl
          · rw [eb]
            simpa using hle
          · have hk : ∀ b o, s.heap.get? b = some o → h'.get? b = some o := fun b o e' => q b o (by
              simp
              exact Nat.ne_of_lt (Heap.lt_size e')) (Heap.get?_push_of_some _ e')
            refine ⟨.int _, H, I.kept (t' := tk) hk, ⟨_, rfl⟩, ?_⟩
            have ct := trues_count bs (fun i => bs.getD i false) (fun i b h1 => by rw [List.getD_eq_getElem?_getD, h1]; rfl) bs.length (Nat.le_refl _)
            rw [List.take_length] at ct
            rw [eb, List.size_toArray, List.length_map, ct]
            exact p.v sh rel_int
        · exact p.elim
    · exact p.elim
  · exact p.elim
end
end EV
set_option maxHeartbeats 2000000
namespace EV
open PySem PySem.Spec PyProof.Rows L2
def errB (K : PySem.W.Frag) (f : Fam) (D : Addr) : Bool := PySem.W.excInitIn K D f.up f.mk && (PySem.W.excOver K D f.up && (PySem.W.hasDictIn K D && (decide (PySem.W.findIn K (.ref D) "__setattr__" = some (some (.builtin "object.__setattr__"))) && PySem.W.keepIn K (.ref D))))
theorem errB_ok {K : PySem.W.Frag} {f : Fam} {D : Addr} (h : errB K f D = true) : ExB K f D := by
  unfold errB at h; simp only [Bool.and_eq_true, decide_eq_true_eq] at h
  obtain ⟨h1, h2, h3, h4, h5⟩ := h
  exact ⟨h1, h2, h3, h4, h5⟩
def fldB (K : PySem.W.Frag) (D : Addr) (fs : List Str) : Bool := fs.all fun g => decide (PySem.W.findIn K (.ref D) g = some none)
theorem fldB_ok {K : PySem.W.Frag} {D : Addr} {fs : List Str} (h : fldB K D fs = true) : ∀ g ∈ fs, PySem.W.findIn K (.ref D) g = some none := fun g hg => by
  unfold fldB at h
  rw [List.all_eq_true] at h
  exact of_decide_eq_true (h g hg)
def xfChk (K : PySem.W.Frag) (ca : Nat → Addr) (cs : List Nat) (f : Str) : Bool := cs.all fun c => xfB K (ca c) && decide (PySem.W.findIn K (.ref (ca c)) f = some none)
theorem xfChk_ok {K : PySem.W.Frag} {ca : Nat → Addr} {cs : List Nat} {f : Str} (h : xfChk K ca cs f = true) : ∀ c ∈ cs, XfC K (ca c) ∧ PySem.W.findIn K (.ref (ca c)) f = some none := fun c hc => by
  unfold xfChk at h
  rw [List.all_eq_true] at h
  have h' := h c hc
  rw [Bool.and_eq_true] at h'
  exact ⟨xfB_ok h'.1, of_decide_eq_true h'.2⟩
def exAll (K : PySem.W.Frag) (ca : Nat → Addr) (n : Nat) : Bool := (List.range n).all fun c => exkB K (ca c)
theorem exAll_ok {K : PySem.W.Frag} {ca : Nat → Addr} {n : Nat} (h : exAll K ca n = true) (h1 : PySem.W.specialIn K (.builtin "object.__class__") "__get__" = some (some (.builtin "getset_descriptor.__get__"))) (h2 : PySem.W.takesIn K (.builtin "object.__class__") = some true) :
    ∀ c, c < n → ExcK K (ca c) := fun c hc => by
  unfold exAll at h
  rw [List.all_eq_true] at h
  exact exkB_ok (h c (List.mem_range.mpr hc)) h1 h2
theorem exks_of {C : Ctx} {n : Nat} {tb : List (Nat × Bool)} (h : ∀ c, c < n → ExcK C.K (C.ca c)) (q : (tb.all fun p => decide (p.1 < n)) = true) : ∀ p ∈ tb, ExcK C.K (C.ca p.1) := fun p hp => by
  rw [List.all_eq_true] at q
  exact h _ (of_decide_eq_true (q p hp))
theorem relV_ref {a : Addr} : ∀ u, RelV (.ref a) u → u = Value.ref a := fun _ h => h
theorem relV_ty {s : String} : ∀ u, RelV (.ty s) u → u = Value.type s := fun _ h => h
section
variable {X : L2.Cx} {C : Ctx} {W : WX} {e t : Expr} {m : M D} {p p2 pos : Pos} {x : Str} {c n : Nat} {tb : List (Nat × Bool)}
/-- isinstance(e, C), C an own error class -/
theorem ev_isxC (hK : X.K = C.K) (hm2 : X.mg x = some (.ref (C.ca c))) (hT : ∀ c, c < n → ExcK C.K (C.ca c)) (q : (tb.all fun p => decide (p.1 < n)) = true) (ck : isChk C.K C.ca (.ref (C.ca c)) tb = true) (hg2 : X.env.kindOf x = some .globalImplicit) (he : PE X e (tE C W m))
    (hm : X.mg "isinstance" = none) (hg : X.env.kindOf "isinstance" = some .globalImplicit) (hdb : (x == ("__debug__" : Str)) = false) (hs : noStars [e, .Name x p2] = true) : PE X (.Call (.Name "isinstance" p) [e, .Name x p2] [] pos) (tE C W (misx tb m)) :=
  ev_isx hK (exks_of hT q) ck relV_ref he (pe_glob hg2 hm2 rfl hdb) hm hg hs
/-- .. a built-in class -/
theorem ev_isxB {s : String} (hK : X.K = C.K) (hm2 : X.mg x = none) (hb : bootBuiltins x = some (.type s)) (hT : ∀ c, c < n → ExcK C.K (C.ca c)) (q : (tb.all fun p => decide (p.1 < n)) = true) (ck : isChk C.K C.ca (.type s) tb = true) (hg2 : X.env.kindOf x = some .globalImplicit) (he : PE X e (tE C W m))
    (hm : X.mg "isinstance" = none) (hg : X.env.kindOf "isinstance" = some .globalImplicit) (hn : (x == ("__name__" : Str)) = false) (hdb : (x == ("__debug__" : Str)) = false) (hs : noStars [e, .Name x p2] = true) : PE X (.Call (.Name "isinstance" p) [e, .Name x p2] [] pos) (tE C W (misx tb m)) :=
  ev_isx hK (exks_of hT q) ck relV_ty he (pe_bltn hg2 hm2 hb rfl (ne_name hn) hdb) hm hg hs
end
end EV
set_option maxHeartbeats 4000000
namespace EV
open PySem PySem.Spec PyProof.Rows L2 RP
def top (i : Nat) : Stmt := PySem.Challenge.pw_evermeant_k18_errors_created.main.body.getD i (.Pass ⟨0, 0, 0, 0⟩)
def clsBody (s : Stmt) (j : Nat) : Stmt := match s with
  | .ClassDef _ _ _ b _ _ _ _ _ _ _ => b.getD j (.Pass ⟨0, 0, 0, 0⟩)
  | s => s
def cs_certificate : List Nat := [18]
def cs_count : List Nat := [29]
def cs_kind : List Nat := [31]
def cs_limit : List Nat := [31]
def cs_line : List Nat := [11]
def cs_module : List Nat := [20, 21]
def cs_name : List Nat := [20, 21, 24]
def cs_path : List Nat := [22]
def cs_place : List Nat := [4, 22, 23, 25]
def cs_position : List Nat := [5, 30]
def cs_problem : List Nat := [4]
def cs_results : List Nat := [30]
def cs_value : List Nat := [1, 2, 3, 6, 7, 8, 9, 10, 12, 13, 14, 15, 16, 17, 19]
def cs_worker : List Nat := [26, 27, 28]
def tb_LookupError : List (Nat × Bool) := [(0, false), (1, false), (2, false), (3, false), (4, false), (5, false), (6, false), (7, false), (8, false), (9, false), (10, false), (11, false), (12, false), (13, true), (14, true), (15, true), (16, true), (17, true), (18, false), (19, false), (20, false), (21, false), (22, false), (23, false), (24, false), (25, false), (26, false), (27, false), (28, false), (29, false), (30, false), (31, false)]
def tb_ValueError : List (Nat × Bool) := [(0, true), (1, true), (2, true), (3, true), (4, true), (5, true), (6, true), (7, true), (8, true), (9, true), (10, true), (11, true), (12, true), (13, false), (14, false), (15, false), (16, false), (17, false), (18, false), (19, false), (20, false), (21, false), (22, false), (23, false), (24, false), (25, false), (26, false), (27, false), (28, false), (29, false), (30, false), (31, false)]
def tb_MeantError : List (Nat × Bool) := [(0, true), (1, true), (2, true), (3, true), (4, true), (5, true), (6, true), (7, true), (8, true), (9, true), (10, true), (11, true), (12, true), (13, false), (14, false), (15, false), (16, false), (17, false), (18, false), (19, false), (20, false), (21, false), (22, false), (23, false), (24, false), (25, false), (26, false), (27, false), (28, false), (29, false), (30, false), (31, false)]
def tb_Exception : List (Nat × Bool) := [(0, true), (1, true), (2, true), (3, true), (4, true), (5, true), (6, true), (7, true), (8, true), (9, true), (10, true), (11, true), (12, true), (13, true), (14, true), (15, true), (16, true), (17, true), (18, true), (19, true), (20, true), (21, true), (22, true), (23, true), (24, true), (25, true), (26, true), (27, true), (28, true), (29, true), (30, true), (31, true)]
def tb_ArithmeticError : List (Nat × Bool) := [(0, false), (1, false), (2, false), (3, false), (4, false), (5, false), (6, false), (7, false), (8, false), (9, false), (10, false), (11, false), (12, false), (13, false), (14, false), (15, false), (16, false), (17, false), (18, false), (19, false), (20, false), (21, false), (22, false), (23, false), (24, false), (25, false), (26, false), (27, false), (28, false), (29, false), (30, false), (31, true)]
def tb_RuntimeError : List (Nat × Bool) := [(0, false), (1, false), (2, false), (3, false), (4, false), (5, false), (6, false), (7, false), (8, false), (9, false), (10, false), (11, false), (12, false), (13, false), (14, false), (15, false), (16, false), (17, false), (18, true), (19, true), (20, true), (21, true), (22, true), (23, true), (24, true), (25, true), (26, true), (27, true), (28, true), (29, true), (30, true), (31, false)]
def tb_InvalidArguments : List (Nat × Bool) := [(0, false), (1, false), (2, false), (3, true), (4, false), (5, false), (6, false), (7, false), (8, false), (9, false), (10, false), (11, false), (12, false), (13, false), (14, false), (15, false), (16, false), (17, false), (18, false), (19, false), (20, false), (21, false), (22, false), (23, false), (24, false), (25, false), (26, false), (27, false), (28, false), (29, false), (30, false), (31, false)]
def tb_InvalidPath : List (Nat × Bool) := [(0, false), (1, false), (2, true), (3, false), (4, false), (5, false), (6, false), (7, false), (8, false), (9, false), (10, false), (11, false), (12, false), (13, false), (14, false), (15, false), (16, false), (17, false), (18, false), (19, false), (20, false), (21, false), (22, false), (23, false), (24, false), (25, false), (26, false), (27, false), (28, false), (29, false), (30, false), (31, false)]
def tb_InvalidName : List (Nat × Bool) := [(0, false), (1, true), (2, false), (3, false), (4, false), (5, false), (6, false), (7, false), (8, false), (9, false), (10, false), (11, false), (12, false), (13, false), (14, false), (15, false), (16, false), (17, false), (18, false), (19, false), (20, false), (21, false), (22, false), (23, false), (24, false), (25, false), (26, false), (27, false), (28, false), (29, false), (30, false), (31, false)]
def tb_InvalidChoices : List (Nat × Bool) := [(0, false), (1, false), (2, false), (3, false), (4, false), (5, false), (6, true), (7, false), (8, false), (9, false), (10, false), (11, false), (12, false), (13, false), (14, false), (15, false), (16, false), (17, false), (18, false), (19, false), (20, false), (21, false), (22, false), (23, false), (24, false), (25, false), (26, false), (27, false), (28, false), (29, false), (30, false), (31, false)]
def tb_InvalidOrder : List (Nat × Bool) := [(0, false), (1, false), (2, false), (3, false), (4, false), (5, true), (6, false), (7, false), (8, false), (9, false), (10, false), (11, false), (12, false), (13, false), (14, false), (15, false), (16, false), (17, false), (18, false), (19, false), (20, false), (21, false), (22, false), (23, false), (24, false), (25, false), (26, false), (27, false), (28, false), (29, false), (30, false), (31, false)]
def tb_InvalidProgram : List (Nat × Bool) := [(0, false), (1, false), (2, false), (3, false), (4, true), (5, false), (6, false), (7, false), (8, false), (9, false), (10, false), (11, false), (12, false), (13, false), (14, false), (15, false), (16, false), (17, false), (18, false), (19, false), (20, false), (21, false), (22, false), (23, false), (24, false), (25, false), (26, false), (27, false), (28, false), (29, false), (30, false), (31, false)]
def tb_InvalidProtected : List (Nat × Bool) := [(0, false), (1, false), (2, false), (3, false), (4, false), (5, false), (6, false), (7, false), (8, false), (9, true), (10, false), (11, false), (12, false), (13, false), (14, false), (15, false), (16, false), (17, false), (18, false), (19, false), (20, false), (21, false), (22, false), (23, false), (24, false), (25, false), (26, false), (27, false), (28, false), (29, false), (30, false), (31, false)]
def tb_InvalidFact : List (Nat × Bool) := [(0, false), (1, false), (2, false), (3, false), (4, false), (5, false), (6, false), (7, false), (8, true), (9, false), (10, false), (11, false), (12, false), (13, false), (14, false), (15, false), (16, false), (17, false), (18, false), (19, false), (20, false), (21, false), (22, false), (23, false), (24, false), (25, false), (26, false), (27, false), (28, false), (29, false), (30, false), (31, false)]
def tb_InvalidPlace : List (Nat × Bool) := [(0, false), (1, false), (2, false), (3, false), (4, false), (5, false), (6, false), (7, true), (8, false), (9, false), (10, false), (11, false), (12, false), (13, false), (14, false), (15, false), (16, false), (17, false), (18, false), (19, false), (20, false), (21, false), (22, false), (23, false), (24, false), (25, false), (26, false), (27, false), (28, false), (29, false), (30, false), (31, false)]
def tb_InvalidCommand : List (Nat × Bool) := [(0, false), (1, false), (2, false), (3, false), (4, false), (5, false), (6, false), (7, false), (8, false), (9, false), (10, false), (11, false), (12, true), (13, false), (14, false), (15, false), (16, false), (17, false), (18, false), (19, false), (20, false), (21, false), (22, false), (23, false), (24, false), (25, false), (26, false), (27, false), (28, false), (29, false), (30, false), (31, false)]
def tb_InvalidText : List (Nat × Bool) := [(0, false), (1, false), (2, false), (3, false), (4, false), (5, false), (6, false), (7, false), (8, false), (9, false), (10, false), (11, true), (12, false), (13, false), (14, false), (15, false), (16, false), (17, false), (18, false), (19, false), (20, false), (21, false), (22, false), (23, false), (24, false), (25, false), (26, false), (27, false), (28, false), (29, false), (30, false), (31, false)]
def tb_InvalidCount : List (Nat × Bool) := [(0, false), (1, false), (2, false), (3, false), (4, false), (5, false), (6, false), (7, false), (8, false), (9, false), (10, true), (11, false), (12, false), (13, false), (14, false), (15, false), (16, false), (17, false), (18, false), (19, false), (20, false), (21, false), (22, false), (23, false), (24, false), (25, false), (26, false), (27, false), (28, false), (29, false), (30, false), (31, false)]
def tb_UnknownCall : List (Nat × Bool) := [(0, false), (1, false), (2, false), (3, false), (4, false), (5, false), (6, false), (7, false), (8, false), (9, false), (10, false), (11, false), (12, false), (13, false), (14, false), (15, true), (16, false), (17, false), (18, false), (19, false), (20, false), (21, false), (22, false), (23, false), (24, false), (25, false), (26, false), (27, false), (28, false), (29, false), (30, false), (31, false)]
def tb_UnknownModule : List (Nat × Bool) := [(0, false), (1, false), (2, false), (3, false), (4, false), (5, false), (6, false), (7, false), (8, false), (9, false), (10, false), (11, false), (12, false), (13, false), (14, true), (15, false), (16, false), (17, false), (18, false), (19, false), (20, false), (21, false), (22, false), (23, false), (24, false), (25, false), (26, false), (27, false), (28, false), (29, false), (30, false), (31, false)]
def tb_UnknownPlace : List (Nat × Bool) := [(0, false), (1, false), (2, false), (3, false), (4, false), (5, false), (6, false), (7, false), (8, false), (9, false), (10, false), (11, false), (12, false), (13, true), (14, false), (15, false), (16, false), (17, false), (18, false), (19, false), (20, false), (21, false), (22, false), (23, false), (24, false), (25, false), (26, false), (27, false), (28, false), (29, false), (30, false), (31, false)]
def tb_Unsteady : List (Nat × Bool) := [(0, false), (1, false), (2, false), (3, false), (4, false), (5, false), (6, false), (7, false), (8, false), (9, false), (10, false), (11, false), (12, false), (13, false), (14, false), (15, false), (16, false), (17, false), (18, true), (19, false), (20, false), (21, false), (22, false), (23, false), (24, false), (25, false), (26, false), (27, false), (28, false), (29, false), (30, false), (31, false)]
def tb_UnknownWorker : List (Nat × Bool) := [(0, false), (1, false), (2, false), (3, false), (4, false), (5, false), (6, false), (7, false), (8, false), (9, false), (10, false), (11, false), (12, false), (13, false), (14, false), (15, false), (16, false), (17, true), (18, false), (19, false), (20, false), (21, false), (22, false), (23, false), (24, false), (25, false), (26, false), (27, false), (28, false), (29, false), (30, false), (31, false)]
def tb_UnknownFunction : List (Nat × Bool) := [(0, false), (1, false), (2, false), (3, false), (4, false), (5, false), (6, false), (7, false), (8, false), (9, false), (10, false), (11, false), (12, false), (13, false), (14, false), (15, false), (16, true), (17, false), (18, false), (19, false), (20, false), (21, false), (22, false), (23, false), (24, false), (25, false), (26, false), (27, false), (28, false), (29, false), (30, false), (31, false)]
def tb_Protected : List (Nat × Bool) := [(0, false), (1, false), (2, false), (3, false), (4, false), (5, false), (6, false), (7, false), (8, false), (9, false), (10, false), (11, false), (12, false), (13, false), (14, false), (15, false), (16, false), (17, false), (18, false), (19, false), (20, false), (21, true), (22, false), (23, false), (24, false), (25, false), (26, false), (27, false), (28, false), (29, false), (30, false), (31, false)]
def tb_NoMeaning : List (Nat × Bool) := [(0, false), (1, false), (2, false), (3, false), (4, false), (5, false), (6, false), (7, false), (8, false), (9, false), (10, false), (11, false), (12, false), (13, false), (14, false), (15, false), (16, false), (17, false), (18, false), (19, false), (20, true), (21, false), (22, false), (23, false), (24, false), (25, false), (26, false), (27, false), (28, false), (29, false), (30, false), (31, false)]
def tb_NotReady : List (Nat × Bool) := [(0, false), (1, false), (2, false), (3, false), (4, false), (5, false), (6, false), (7, false), (8, false), (9, false), (10, false), (11, false), (12, false), (13, false), (14, false), (15, false), (16, false), (17, false), (18, false), (19, true), (20, false), (21, false), (22, false), (23, false), (24, false), (25, false), (26, false), (27, false), (28, false), (29, false), (30, false), (31, false)]
def tb_NameTaken : List (Nat × Bool) := [(0, false), (1, false), (2, false), (3, false), (4, false), (5, false), (6, false), (7, false), (8, false), (9, false), (10, false), (11, false), (12, false), (13, false), (14, false), (15, false), (16, false), (17, false), (18, false), (19, false), (20, false), (21, false), (22, false), (23, false), (24, true), (25, false), (26, false), (27, false), (28, false), (29, false), (30, false), (31, false)]
def tb_Circular : List (Nat × Bool) := [(0, false), (1, false), (2, false), (3, false), (4, false), (5, false), (6, false), (7, false), (8, false), (9, false), (10, false), (11, false), (12, false), (13, false), (14, false), (15, false), (16, false), (17, false), (18, false), (19, false), (20, false), (21, false), (22, false), (23, true), (24, false), (25, false), (26, false), (27, false), (28, false), (29, false), (30, false), (31, false)]
def tb_Missing : List (Nat × Bool) := [(0, false), (1, false), (2, false), (3, false), (4, false), (5, false), (6, false), (7, false), (8, false), (9, false), (10, false), (11, false), (12, false), (13, false), (14, false), (15, false), (16, false), (17, false), (18, false), (19, false), (20, false), (21, false), (22, true), (23, false), (24, false), (25, false), (26, false), (27, false), (28, false), (29, false), (30, false), (31, false)]
def tb_Idle : List (Nat × Bool) := [(0, false), (1, false), (2, false), (3, false), (4, false), (5, false), (6, false), (7, false), (8, false), (9, false), (10, false), (11, false), (12, false), (13, false), (14, false), (15, false), (16, false), (17, false), (18, false), (19, false), (20, false), (21, false), (22, false), (23, false), (24, false), (25, false), (26, false), (27, true), (28, false), (29, false), (30, false), (31, false)]
def tb_Busy : List (Nat × Bool) := [(0, false), (1, false), (2, false), (3, false), (4, false), (5, false), (6, false), (7, false), (8, false), (9, false), (10, false), (11, false), (12, false), (13, false), (14, false), (15, false), (16, false), (17, false), (18, false), (19, false), (20, false), (21, false), (22, false), (23, false), (24, false), (25, false), (26, true), (27, false), (28, false), (29, false), (30, false), (31, false)]
def tb_CallTaken : List (Nat × Bool) := [(0, false), (1, false), (2, false), (3, false), (4, false), (5, false), (6, false), (7, false), (8, false), (9, false), (10, false), (11, false), (12, false), (13, false), (14, false), (15, false), (16, false), (17, false), (18, false), (19, false), (20, false), (21, false), (22, false), (23, false), (24, false), (25, true), (26, false), (27, false), (28, false), (29, false), (30, false), (31, false)]
def tb_NothingToUndo : List (Nat × Bool) := [(0, false), (1, false), (2, false), (3, false), (4, false), (5, false), (6, false), (7, false), (8, false), (9, false), (10, false), (11, false), (12, false), (13, false), (14, false), (15, false), (16, false), (17, false), (18, false), (19, false), (20, false), (21, false), (22, false), (23, false), (24, false), (25, false), (26, false), (27, false), (28, false), (29, true), (30, false), (31, false)]
def tb_Turned : List (Nat × Bool) := [(0, false), (1, false), (2, false), (3, false), (4, false), (5, false), (6, false), (7, false), (8, false), (9, false), (10, false), (11, false), (12, false), (13, false), (14, false), (15, false), (16, false), (17, false), (18, false), (19, false), (20, false), (21, false), (22, false), (23, false), (24, false), (25, false), (26, false), (27, false), (28, true), (29, false), (30, false), (31, false)]
def tb_TooMany : List (Nat × Bool) := [(0, false), (1, false), (2, false), (3, false), (4, false), (5, false), (6, false), (7, false), (8, false), (9, false), (10, false), (11, false), (12, false), (13, false), (14, false), (15, false), (16, false), (17, false), (18, false), (19, false), (20, false), (21, false), (22, false), (23, false), (24, false), (25, false), (26, false), (27, false), (28, false), (29, false), (30, false), (31, true)]
def tb_CommandFailed : List (Nat × Bool) := [(0, false), (1, false), (2, false), (3, false), (4, false), (5, false), (6, false), (7, false), (8, false), (9, false), (10, false), (11, false), (12, false), (13, false), (14, false), (15, false), (16, false), (17, false), (18, false), (19, false), (20, false), (21, false), (22, false), (23, false), (24, false), (25, false), (26, false), (27, false), (28, false), (29, false), (30, true), (31, false)]
structure TX (C : Ctx) (mg : Str → Option Value) : Prop where
  z_ArithmeticError : mg "ArithmeticError" = none
  z_Exception : mg "Exception" = none
  z_LookupError : mg "LookupError" = none
  z_RuntimeError : mg "RuntimeError" = none
  z_ValueError : mg "ValueError" = none
  z_abs : mg "abs" = none
  z_all : mg "all" = none
  z_divmod : mg "divmod" = none
  z_isinstance : mg "isinstance" = none
  z_len : mg "len" = none
  z_max : mg "max" = none
  z_min : mg "min" = none
  z_range : mg "range" = none
  z_repr : mg "repr" = none
  z_sum : mg "sum" = none
  em_MeantError : mg "MeantError" = some (.ref (C.ca 0))
  em_InvalidName : mg "InvalidName" = some (.ref (C.ca 1))
  em_InvalidPath : mg "InvalidPath" = some (.ref (C.ca 2))
  em_InvalidArguments : mg "InvalidArguments" = some (.ref (C.ca 3))
  em_InvalidProgram : mg "InvalidProgram" = some (.ref (C.ca 4))
  em_InvalidOrder : mg "InvalidOrder" = some (.ref (C.ca 5))
  em_InvalidChoices : mg "InvalidChoices" = some (.ref (C.ca 6))
  em_InvalidPlace : mg "InvalidPlace" = some (.ref (C.ca 7))
  em_InvalidFact : mg "InvalidFact" = some (.ref (C.ca 8))
  em_InvalidProtected : mg "InvalidProtected" = some (.ref (C.ca 9))
  em_InvalidCount : mg "InvalidCount" = some (.ref (C.ca 10))
  em_InvalidText : mg "InvalidText" = some (.ref (C.ca 11))
  em_InvalidCommand : mg "InvalidCommand" = some (.ref (C.ca 12))
  em_UnknownPlace : mg "UnknownPlace" = some (.ref (C.ca 13))
  em_UnknownModule : mg "UnknownModule" = some (.ref (C.ca 14))
  em_UnknownCall : mg "UnknownCall" = some (.ref (C.ca 15))
  em_UnknownFunction : mg "UnknownFunction" = some (.ref (C.ca 16))
  em_UnknownWorker : mg "UnknownWorker" = some (.ref (C.ca 17))
  em_Unsteady : mg "Unsteady" = some (.ref (C.ca 18))
  em_NotReady : mg "NotReady" = some (.ref (C.ca 19))
  em_NoMeaning : mg "NoMeaning" = some (.ref (C.ca 20))
  em_Protected : mg "Protected" = some (.ref (C.ca 21))
  em_Missing : mg "Missing" = some (.ref (C.ca 22))
  em_Circular : mg "Circular" = some (.ref (C.ca 23))
  em_NameTaken : mg "NameTaken" = some (.ref (C.ca 24))
  em_CallTaken : mg "CallTaken" = some (.ref (C.ca 25))
  em_Busy : mg "Busy" = some (.ref (C.ca 26))
  em_Idle : mg "Idle" = some (.ref (C.ca 27))
  em_Turned : mg "Turned" = some (.ref (C.ca 28))
  em_NothingToUndo : mg "NothingToUndo" = some (.ref (C.ca 29))
  em_CommandFailed : mg "CommandFailed" = some (.ref (C.ca 30))
  em_TooMany : mg "TooMany" = some (.ref (C.ca 31))
  exk : ∀ c, c < 32 → ExcK C.K (C.ca c)
  xf_certificate : ∀ c ∈ cs_certificate, XfC C.K (C.ca c) ∧ PySem.W.findIn C.K (.ref (C.ca c)) "certificate" = some none
  xf_count : ∀ c ∈ cs_count, XfC C.K (C.ca c) ∧ PySem.W.findIn C.K (.ref (C.ca c)) "count" = some none
  xf_kind : ∀ c ∈ cs_kind, XfC C.K (C.ca c) ∧ PySem.W.findIn C.K (.ref (C.ca c)) "kind" = some none
  xf_limit : ∀ c ∈ cs_limit, XfC C.K (C.ca c) ∧ PySem.W.findIn C.K (.ref (C.ca c)) "limit" = some none
  xf_line : ∀ c ∈ cs_line, XfC C.K (C.ca c) ∧ PySem.W.findIn C.K (.ref (C.ca c)) "line" = some none
  xf_module : ∀ c ∈ cs_module, XfC C.K (C.ca c) ∧ PySem.W.findIn C.K (.ref (C.ca c)) "module" = some none
  xf_name : ∀ c ∈ cs_name, XfC C.K (C.ca c) ∧ PySem.W.findIn C.K (.ref (C.ca c)) "name" = some none
  xf_path : ∀ c ∈ cs_path, XfC C.K (C.ca c) ∧ PySem.W.findIn C.K (.ref (C.ca c)) "path" = some none
  xf_place : ∀ c ∈ cs_place, XfC C.K (C.ca c) ∧ PySem.W.findIn C.K (.ref (C.ca c)) "place" = some none
  xf_position : ∀ c ∈ cs_position, XfC C.K (C.ca c) ∧ PySem.W.findIn C.K (.ref (C.ca c)) "position" = some none
  xf_problem : ∀ c ∈ cs_problem, XfC C.K (C.ca c) ∧ PySem.W.findIn C.K (.ref (C.ca c)) "problem" = some none
  xf_results : ∀ c ∈ cs_results, XfC C.K (C.ca c) ∧ PySem.W.findIn C.K (.ref (C.ca c)) "results" = some none
  xf_value : ∀ c ∈ cs_value, XfC C.K (C.ca c) ∧ PySem.W.findIn C.K (.ref (C.ca c)) "value" = some none
  xf_worker : ∀ c ∈ cs_worker, XfC C.K (C.ca c) ∧ PySem.W.findIn C.K (.ref (C.ca c)) "worker" = some none
  is_LookupError : isChk C.K C.ca (.type "LookupError") tb_LookupError = true
  is_ValueError : isChk C.K C.ca (.type "ValueError") tb_ValueError = true
  is_MeantError : isChk C.K C.ca (.ref (C.ca 0)) tb_MeantError = true
  is_Exception : isChk C.K C.ca (.type "Exception") tb_Exception = true
  is_ArithmeticError : isChk C.K C.ca (.type "ArithmeticError") tb_ArithmeticError = true
  is_RuntimeError : isChk C.K C.ca (.type "RuntimeError") tb_RuntimeError = true
  is_InvalidArguments : isChk C.K C.ca (.ref (C.ca 3)) tb_InvalidArguments = true
  is_InvalidPath : isChk C.K C.ca (.ref (C.ca 2)) tb_InvalidPath = true
  is_InvalidName : isChk C.K C.ca (.ref (C.ca 1)) tb_InvalidName = true
  is_InvalidChoices : isChk C.K C.ca (.ref (C.ca 6)) tb_InvalidChoices = true
  is_InvalidOrder : isChk C.K C.ca (.ref (C.ca 5)) tb_InvalidOrder = true
  is_InvalidProgram : isChk C.K C.ca (.ref (C.ca 4)) tb_InvalidProgram = true
  is_InvalidProtected : isChk C.K C.ca (.ref (C.ca 9)) tb_InvalidProtected = true
  is_InvalidFact : isChk C.K C.ca (.ref (C.ca 8)) tb_InvalidFact = true
  is_InvalidPlace : isChk C.K C.ca (.ref (C.ca 7)) tb_InvalidPlace = true
  is_InvalidCommand : isChk C.K C.ca (.ref (C.ca 12)) tb_InvalidCommand = true
  is_InvalidText : isChk C.K C.ca (.ref (C.ca 11)) tb_InvalidText = true
  is_InvalidCount : isChk C.K C.ca (.ref (C.ca 10)) tb_InvalidCount = true
  is_UnknownCall : isChk C.K C.ca (.ref (C.ca 15)) tb_UnknownCall = true
  is_UnknownModule : isChk C.K C.ca (.ref (C.ca 14)) tb_UnknownModule = true
  is_UnknownPlace : isChk C.K C.ca (.ref (C.ca 13)) tb_UnknownPlace = true
  is_Unsteady : isChk C.K C.ca (.ref (C.ca 18)) tb_Unsteady = true
  is_UnknownWorker : isChk C.K C.ca (.ref (C.ca 17)) tb_UnknownWorker = true
  is_UnknownFunction : isChk C.K C.ca (.ref (C.ca 16)) tb_UnknownFunction = true
  is_Protected : isChk C.K C.ca (.ref (C.ca 21)) tb_Protected = true
  is_NoMeaning : isChk C.K C.ca (.ref (C.ca 20)) tb_NoMeaning = true
  is_NotReady : isChk C.K C.ca (.ref (C.ca 19)) tb_NotReady = true
  is_NameTaken : isChk C.K C.ca (.ref (C.ca 24)) tb_NameTaken = true
  is_Circular : isChk C.K C.ca (.ref (C.ca 23)) tb_Circular = true
  is_Missing : isChk C.K C.ca (.ref (C.ca 22)) tb_Missing = true
  is_Idle : isChk C.K C.ca (.ref (C.ca 27)) tb_Idle = true
  is_Busy : isChk C.K C.ca (.ref (C.ca 26)) tb_Busy = true
  is_CallTaken : isChk C.K C.ca (.ref (C.ca 25)) tb_CallTaken = true
  is_NothingToUndo : isChk C.K C.ca (.ref (C.ca 29)) tb_NothingToUndo = true
  is_Turned : isChk C.K C.ca (.ref (C.ca 28)) tb_Turned = true
  is_TooMany : isChk C.K C.ca (.ref (C.ca 31)) tb_TooMany = true
  is_CommandFailed : isChk C.K C.ca (.ref (C.ca 30)) tb_CommandFailed = true
  eq_MeantError : PySem.W.excIn C.K (C.ca 0) Fam.val.up Fam.val.mk = true
  ek_MeantError : PySem.W.keepIn C.K (.ref (C.ca 0)) = true
  cr_MeantError : ClX.CRead C.K (C.ca 0) (.type "type")
  vi_MeantError : PySem.W.findCls C.K (.ref (C.ca 0)) (.type "type") "__init__" = some (.val (.builtin Fam.val.ini))
  vb_LookupError : PySem.W.findCls C.K (.type Fam.look.nm) (.type "type") "__init__" = some (.val (.builtin Fam.look.ini))
  vb_RuntimeError : PySem.W.findCls C.K (.type Fam.run.nm) (.type "type") "__init__" = some (.val (.builtin Fam.run.ini))
  vb_ArithmeticError : PySem.W.findCls C.K (.type Fam.arith.nm) (.type "type") "__init__" = some (.val (.builtin Fam.arith.ini))
section
variable {C : Ctx} {P : Program} {w : World} {mg : Str → Option Value} {base : Heap}
abbrev st_InvalidName : Stmt := clsBody (top 2) 0
theorem sc_InvalidName : FnScope ["self", "value"] ["self", "value"] (defScope st_InvalidName) := ⟨rfl, rfl, rfl, by decide +kernel, rfl, by decide +kernel, by decide +kernel⟩
theorem ok_InvalidName {f : Addr} {fd : FuncData} {dvs : List V} {kws : List (Str × V)} (T : TX C mg) (FD : FunD C.K "__init__" "InvalidName.__init__" (defArgs st_InvalidName) (defBody st_InvalidName) (defScope st_InvalidName) dvs kws f fd) : FnG P w C.K mg base CX0 1 f fd ["self", "value"] (spY C.K .val ["value"]) :=
  fnG_of (k := 0) FD sc_InvalidName (spY_len rfl) fun cdv A outer s H vs Q E room h => ⟨_, pss_cons (ps_expr (pe_iniC .val rfl T.em_MeantError T.cr_MeantError T.vi_MeantError (Fam.hand .val) (pa_cons (pe_var rfl (.inl rfl)) (pa_cons pe_str pa_nil rfl) rfl) rfl rfl rfl rfl) rfl) (pss_one (ps_put .val (pe_var rfl (.inl rfl)) (pe_var rfl (.inl rfl)) rfl)), ini1_reads rfl (fun _ _ z => z) h⟩
abbrev st_InvalidPath : Stmt := clsBody (top 3) 0
theorem sc_InvalidPath : FnScope ["self", "value"] ["self", "value"] (defScope st_InvalidPath) := ⟨rfl, rfl, rfl, by decide +kernel, rfl, by decide +kernel, by decide +kernel⟩
theorem ok_InvalidPath {f : Addr} {fd : FuncData} {dvs : List V} {kws : List (Str × V)} (T : TX C mg) (FD : FunD C.K "__init__" "InvalidPath.__init__" (defArgs st_InvalidPath) (defBody st_InvalidPath) (defScope st_InvalidPath) dvs kws f fd) : FnG P w C.K mg base CX0 1 f fd ["self", "value"] (spY C.K .val ["value"]) :=
  fnG_of (k := 0) FD sc_InvalidPath (spY_len rfl) fun cdv A outer s H vs Q E room h => ⟨_, pss_cons (ps_expr (pe_iniC .val rfl T.em_MeantError T.cr_MeantError T.vi_MeantError (Fam.hand .val) (pa_cons (pe_var rfl (.inl rfl)) (pa_cons pe_str pa_nil rfl) rfl) rfl rfl rfl rfl) rfl) (pss_one (ps_put .val (pe_var rfl (.inl rfl)) (pe_var rfl (.inl rfl)) rfl)), ini1_reads rfl (fun _ _ z => z) h⟩
abbrev st_InvalidArguments : Stmt := clsBody (top 4) 0
theorem sc_InvalidArguments : FnScope ["self", "value"] ["self", "value"] (defScope st_InvalidArguments) := ⟨rfl, rfl, rfl, by decide +kernel, rfl, by decide +kernel, by decide +kernel⟩
theorem ok_InvalidArguments {f : Addr} {fd : FuncData} {dvs : List V} {kws : List (Str × V)} (T : TX C mg) (FD : FunD C.K "__init__" "InvalidArguments.__init__" (defArgs st_InvalidArguments) (defBody st_InvalidArguments) (defScope st_InvalidArguments) dvs kws f fd) : FnG P w C.K mg base CX0 1 f fd ["self", "value"] (spY C.K .val ["value"]) :=
  fnG_of (k := 0) FD sc_InvalidArguments (spY_len rfl) fun cdv A outer s H vs Q E room h => ⟨_, pss_cons (ps_expr (pe_iniC .val rfl T.em_MeantError T.cr_MeantError T.vi_MeantError (Fam.hand .val) (pa_cons (pe_var rfl (.inl rfl)) (pa_cons pe_str pa_nil rfl) rfl) rfl rfl rfl rfl) rfl) (pss_one (ps_put .val (pe_var rfl (.inl rfl)) (pe_var rfl (.inl rfl)) rfl)), ini1_reads rfl (fun _ _ z => z) h⟩
abbrev st_InvalidProgram : Stmt := clsBody (top 5) 0
theorem sc_InvalidProgram : FnScope ["self", "problem", "place"] ["self", "problem", "place"] (defScope st_InvalidProgram) := ⟨rfl, rfl, rfl, by decide +kernel, rfl, by decide +kernel, by decide +kernel⟩
theorem ok_InvalidProgram {f : Addr} {fd : FuncData} {dvs : List V} {kws : List (Str × V)} (T : TX C mg) (FD : FunD C.K "__init__" "InvalidProgram.__init__" (defArgs st_InvalidProgram) (defBody st_InvalidProgram) (defScope st_InvalidProgram) dvs kws f fd) : FnG P w C.K mg base CX0 1 f fd ["self", "problem", "place"] (spY C.K .val ["problem", "place"]) :=
  fnG_of (k := 0) FD sc_InvalidProgram (spY_len rfl) fun cdv A outer s H vs Q E room h => ⟨_, pss_cons (ps_expr (pe_iniC .val rfl T.em_MeantError T.cr_MeantError T.vi_MeantError (Fam.hand .val) (pa_cons (pe_var rfl (.inl rfl)) (pa_cons pe_str pa_nil rfl) rfl) rfl rfl rfl rfl) rfl) (pss_cons (ps_put .val (pe_var rfl (.inl rfl)) (pe_var rfl (.inl rfl)) rfl) (pss_one (ps_put .val (pe_var rfl (.inl rfl)) (pe_var rfl (.inl rfl)) rfl))), ini2_reads rfl (fun _ _ z => z) h⟩
abbrev st_InvalidOrder : Stmt := clsBody (top 6) 0
theorem sc_InvalidOrder : FnScope ["self", "position"] ["self", "position"] (defScope st_InvalidOrder) := ⟨rfl, rfl, rfl, by decide +kernel, rfl, by decide +kernel, by decide +kernel⟩
theorem ok_InvalidOrder {f : Addr} {fd : FuncData} {dvs : List V} {kws : List (Str × V)} (T : TX C mg) (FD : FunD C.K "__init__" "InvalidOrder.__init__" (defArgs st_InvalidOrder) (defBody st_InvalidOrder) (defScope st_InvalidOrder) dvs kws f fd) : FnG P w C.K mg base CX0 1 f fd ["self", "position"] (spY C.K .val ["position"]) :=
  fnG_of (k := 0) FD sc_InvalidOrder (spY_len rfl) fun cdv A outer s H vs Q E room h => ⟨_, pss_cons (ps_expr (pe_iniC .val rfl T.em_MeantError T.cr_MeantError T.vi_MeantError (Fam.hand .val) (pa_cons (pe_var rfl (.inl rfl)) (pa_cons pe_str pa_nil rfl) rfl) rfl rfl rfl rfl) rfl) (pss_one (ps_put .val (pe_var rfl (.inl rfl)) (pe_var rfl (.inl rfl)) rfl)), ini1_reads rfl (fun _ _ z => z) h⟩
abbrev st_InvalidChoices : Stmt := clsBody (top 7) 0
theorem sc_InvalidChoices : FnScope ["self", "value"] ["self", "value"] (defScope st_InvalidChoices) := ⟨rfl, rfl, rfl, by decide +kernel, rfl, by decide +kernel, by decide +kernel⟩
theorem ok_InvalidChoices {f : Addr} {fd : FuncData} {dvs : List V} {kws : List (Str × V)} (T : TX C mg) (FD : FunD C.K "__init__" "InvalidChoices.__init__" (defArgs st_InvalidChoices) (defBody st_InvalidChoices) (defScope st_InvalidChoices) dvs kws f fd) : FnG P w C.K mg base CX0 1 f fd ["self", "value"] (spY C.K .val ["value"]) :=
  fnG_of (k := 0) FD sc_InvalidChoices (spY_len rfl) fun cdv A outer s H vs Q E room h => ⟨_, pss_cons (ps_expr (pe_iniC .val rfl T.em_MeantError T.cr_MeantError T.vi_MeantError (Fam.hand .val) (pa_cons (pe_var rfl (.inl rfl)) (pa_cons pe_str pa_nil rfl) rfl) rfl rfl rfl rfl) rfl) (pss_one (ps_put .val (pe_var rfl (.inl rfl)) (pe_var rfl (.inl rfl)) rfl)), ini1_reads rfl (fun _ _ z => z) h⟩
abbrev st_InvalidPlace : Stmt := clsBody (top 8) 0
theorem sc_InvalidPlace : FnScope ["self", "value"] ["self", "value"] (defScope st_InvalidPlace) := ⟨rfl, rfl, rfl, by decide +kernel, rfl, by decide +kernel, by decide +kernel⟩
theorem ok_InvalidPlace {f : Addr} {fd : FuncData} {dvs : List V} {kws : List (Str × V)} (T : TX C mg) (FD : FunD C.K "__init__" "InvalidPlace.__init__" (defArgs st_InvalidPlace) (defBody st_InvalidPlace) (defScope st_InvalidPlace) dvs kws f fd) : FnG P w C.K mg base CX0 1 f fd ["self", "value"] (spY C.K .val ["value"]) :=
  fnG_of (k := 0) FD sc_InvalidPlace (spY_len rfl) fun cdv A outer s H vs Q E room h => ⟨_, pss_cons (ps_expr (pe_iniC .val rfl T.em_MeantError T.cr_MeantError T.vi_MeantError (Fam.hand .val) (pa_cons (pe_var rfl (.inl rfl)) (pa_cons pe_str pa_nil rfl) rfl) rfl rfl rfl rfl) rfl) (pss_one (ps_put .val (pe_var rfl (.inl rfl)) (pe_var rfl (.inl rfl)) rfl)), ini1_reads rfl (fun _ _ z => z) h⟩
abbrev st_InvalidFact : Stmt := clsBody (top 9) 0
theorem sc_InvalidFact : FnScope ["self", "value"] ["self", "value"] (defScope st_InvalidFact) := ⟨rfl, rfl, rfl, by decide +kernel, rfl, by decide +kernel, by decide +kernel⟩
theorem ok_InvalidFact {f : Addr} {fd : FuncData} {dvs : List V} {kws : List (Str × V)} (T : TX C mg) (FD : FunD C.K "__init__" "InvalidFact.__init__" (defArgs st_InvalidFact) (defBody st_InvalidFact) (defScope st_InvalidFact) dvs kws f fd) : FnG P w C.K mg base CX0 1 f fd ["self", "value"] (spY C.K .val ["value"]) :=
  fnG_of (k := 0) FD sc_InvalidFact (spY_len rfl) fun cdv A outer s H vs Q E room h => ⟨_, pss_cons (ps_expr (pe_iniC .val rfl T.em_MeantError T.cr_MeantError T.vi_MeantError (Fam.hand .val) (pa_cons (pe_var rfl (.inl rfl)) (pa_cons pe_str pa_nil rfl) rfl) rfl rfl rfl rfl) rfl) (pss_one (ps_put .val (pe_var rfl (.inl rfl)) (pe_var rfl (.inl rfl)) rfl)), ini1_reads rfl (fun _ _ z => z) h⟩
abbrev st_InvalidProtected : Stmt := clsBody (top 10) 0
theorem sc_InvalidProtected : FnScope ["self", "value"] ["self", "value"] (defScope st_InvalidProtected) := ⟨rfl, rfl, rfl, by decide +kernel, rfl, by decide +kernel, by decide +kernel⟩
theorem ok_InvalidProtected {f : Addr} {fd : FuncData} {dvs : List V} {kws : List (Str × V)} (T : TX C mg) (FD : FunD C.K "__init__" "InvalidProtected.__init__" (defArgs st_InvalidProtected) (defBody st_InvalidProtected) (defScope st_InvalidProtected) dvs kws f fd) : FnG P w C.K mg base CX0 1 f fd ["self", "value"] (spY C.K .val ["value"]) :=
  fnG_of (k := 0) FD sc_InvalidProtected (spY_len rfl) fun cdv A outer s H vs Q E room h => ⟨_, pss_cons (ps_expr (pe_iniC .val rfl T.em_MeantError T.cr_MeantError T.vi_MeantError (Fam.hand .val) (pa_cons (pe_var rfl (.inl rfl)) (pa_cons pe_str pa_nil rfl) rfl) rfl rfl rfl rfl) rfl) (pss_one (ps_put .val (pe_var rfl (.inl rfl)) (pe_var rfl (.inl rfl)) rfl)), ini1_reads rfl (fun _ _ z => z) h⟩
abbrev st_InvalidCount : Stmt := clsBody (top 11) 0
theorem sc_InvalidCount : FnScope ["self", "value"] ["self", "value"] (defScope st_InvalidCount) := ⟨rfl, rfl, rfl, by decide +kernel, rfl, by decide +kernel, by decide +kernel⟩
theorem ok_InvalidCount {f : Addr} {fd : FuncData} {dvs : List V} {kws : List (Str × V)} (T : TX C mg) (FD : FunD C.K "__init__" "InvalidCount.__init__" (defArgs st_InvalidCount) (defBody st_InvalidCount) (defScope st_InvalidCount) dvs kws f fd) : FnG P w C.K mg base CX0 1 f fd ["self", "value"] (spY C.K .val ["value"]) :=
  fnG_of (k := 0) FD sc_InvalidCount (spY_len rfl) fun cdv A outer s H vs Q E room h => ⟨_, pss_cons (ps_expr (pe_iniC .val rfl T.em_MeantError T.cr_MeantError T.vi_MeantError (Fam.hand .val) (pa_cons (pe_var rfl (.inl rfl)) (pa_cons pe_str pa_nil rfl) rfl) rfl rfl rfl rfl) rfl) (pss_one (ps_put .val (pe_var rfl (.inl rfl)) (pe_var rfl (.inl rfl)) rfl)), ini1_reads rfl (fun _ _ z => z) h⟩
abbrev st_InvalidText : Stmt := clsBody (top 12) 0
theorem sc_InvalidText : FnScope ["self", "line"] ["self", "line"] (defScope st_InvalidText) := ⟨rfl, rfl, rfl, by decide +kernel, rfl, by decide +kernel, by decide +kernel⟩
theorem ok_InvalidText {f : Addr} {fd : FuncData} {dvs : List V} {kws : List (Str × V)} (T : TX C mg) (FD : FunD C.K "__init__" "InvalidText.__init__" (defArgs st_InvalidText) (defBody st_InvalidText) (defScope st_InvalidText) dvs kws f fd) : FnG P w C.K mg base CX0 1 f fd ["self", "line"] (spY C.K .val ["line"]) :=
  fnG_of (k := 0) FD sc_InvalidText (spY_len rfl) fun cdv A outer s H vs Q E room h => ⟨_, pss_cons (ps_expr (pe_iniC .val rfl T.em_MeantError T.cr_MeantError T.vi_MeantError (Fam.hand .val) (pa_cons (pe_var rfl (.inl rfl)) (pa_cons pe_str pa_nil rfl) rfl) rfl rfl rfl rfl) rfl) (pss_one (ps_put .val (pe_var rfl (.inl rfl)) (pe_var rfl (.inl rfl)) rfl)), ini1_reads rfl (fun _ _ z => z) h⟩
abbrev st_InvalidCommand : Stmt := clsBody (top 13) 0
theorem sc_InvalidCommand : FnScope ["self", "value"] ["self", "value"] (defScope st_InvalidCommand) := ⟨rfl, rfl, rfl, by decide +kernel, rfl, by decide +kernel, by decide +kernel⟩
theorem ok_InvalidCommand {f : Addr} {fd : FuncData} {dvs : List V} {kws : List (Str × V)} (T : TX C mg) (FD : FunD C.K "__init__" "InvalidCommand.__init__" (defArgs st_InvalidCommand) (defBody st_InvalidCommand) (defScope st_InvalidCommand) dvs kws f fd) : FnG P w C.K mg base CX0 1 f fd ["self", "value"] (spY C.K .val ["value"]) :=
  fnG_of (k := 0) FD sc_InvalidCommand (spY_len rfl) fun cdv A outer s H vs Q E room h => ⟨_, pss_cons (ps_expr (pe_iniC .val rfl T.em_MeantError T.cr_MeantError T.vi_MeantError (Fam.hand .val) (pa_cons (pe_var rfl (.inl rfl)) (pa_cons pe_str pa_nil rfl) rfl) rfl rfl rfl rfl) rfl) (pss_one (ps_put .val (pe_var rfl (.inl rfl)) (pe_var rfl (.inl rfl)) rfl)), ini1_reads rfl (fun _ _ z => z) h⟩
abbrev st_UnknownPlace : Stmt := clsBody (top 14) 0
theorem sc_UnknownPlace : FnScope ["self", "value"] ["self", "value"] (defScope st_UnknownPlace) := ⟨rfl, rfl, rfl, by decide +kernel, rfl, by decide +kernel, by decide +kernel⟩
theorem ok_UnknownPlace {f : Addr} {fd : FuncData} {dvs : List V} {kws : List (Str × V)} (T : TX C mg) (FD : FunD C.K "__init__" "UnknownPlace.__init__" (defArgs st_UnknownPlace) (defBody st_UnknownPlace) (defScope st_UnknownPlace) dvs kws f fd) : FnG P w C.K mg base CX0 1 f fd ["self", "value"] (spY C.K .look ["value"]) :=
  fnG_of (k := 0) FD sc_UnknownPlace (spY_len rfl) fun cdv A outer s H vs Q E room h => ⟨_, pss_cons (ps_expr (pe_iniB .look rfl T.z_LookupError PyProof.Rows.Boot.«LookupError» (ne_name rfl) T.vb_LookupError (pa_cons (pe_var rfl (.inl rfl)) (pa_cons pe_str pa_nil rfl) rfl) rfl rfl rfl rfl) rfl) (pss_one (ps_put .look (pe_var rfl (.inl rfl)) (pe_var rfl (.inl rfl)) rfl)), ini1_reads rfl (fun _ _ z => z) h⟩
abbrev st_UnknownModule : Stmt := clsBody (top 15) 0
theorem sc_UnknownModule : FnScope ["self", "value"] ["self", "value"] (defScope st_UnknownModule) := ⟨rfl, rfl, rfl, by decide +kernel, rfl, by decide +kernel, by decide +kernel⟩
theorem ok_UnknownModule {f : Addr} {fd : FuncData} {dvs : List V} {kws : List (Str × V)} (T : TX C mg) (FD : FunD C.K "__init__" "UnknownModule.__init__" (defArgs st_UnknownModule) (defBody st_UnknownModule) (defScope st_UnknownModule) dvs kws f fd) : FnG P w C.K mg base CX0 1 f fd ["self", "value"] (spY C.K .look ["value"]) :=
  fnG_of (k := 0) FD sc_UnknownModule (spY_len rfl) fun cdv A outer s H vs Q E room h => ⟨_, pss_cons (ps_expr (pe_iniB .look rfl T.z_LookupError PyProof.Rows.Boot.«LookupError» (ne_name rfl) T.vb_LookupError (pa_cons (pe_var rfl (.inl rfl)) (pa_cons pe_str pa_nil rfl) rfl) rfl rfl rfl rfl) rfl) (pss_one (ps_put .look (pe_var rfl (.inl rfl)) (pe_var rfl (.inl rfl)) rfl)), ini1_reads rfl (fun _ _ z => z) h⟩
abbrev st_UnknownCall : Stmt := clsBody (top 16) 0
theorem sc_UnknownCall : FnScope ["self", "value"] ["self", "value"] (defScope st_UnknownCall) := ⟨rfl, rfl, rfl, by decide +kernel, rfl, by decide +kernel, by decide +kernel⟩
theorem ok_UnknownCall {f : Addr} {fd : FuncData} {dvs : List V} {kws : List (Str × V)} (T : TX C mg) (FD : FunD C.K "__init__" "UnknownCall.__init__" (defArgs st_UnknownCall) (defBody st_UnknownCall) (defScope st_UnknownCall) dvs kws f fd) : FnG P w C.K mg base CX0 1 f fd ["self", "value"] (spY C.K .look ["value"]) :=
  fnG_of (k := 0) FD sc_UnknownCall (spY_len rfl) fun cdv A outer s H vs Q E room h => ⟨_, pss_cons (ps_expr (pe_iniB .look rfl T.z_LookupError PyProof.Rows.Boot.«LookupError» (ne_name rfl) T.vb_LookupError (pa_cons (pe_var rfl (.inl rfl)) (pa_cons pe_str pa_nil rfl) rfl) rfl rfl rfl rfl) rfl) (pss_one (ps_put .look (pe_var rfl (.inl rfl)) (pe_var rfl (.inl rfl)) rfl)), ini1_reads rfl (fun _ _ z => z) h⟩
abbrev st_UnknownFunction : Stmt := clsBody (top 17) 0
theorem sc_UnknownFunction : FnScope ["self", "value"] ["self", "value"] (defScope st_UnknownFunction) := ⟨rfl, rfl, rfl, by decide +kernel, rfl, by decide +kernel, by decide +kernel⟩
theorem ok_UnknownFunction {f : Addr} {fd : FuncData} {dvs : List V} {kws : List (Str × V)} (T : TX C mg) (FD : FunD C.K "__init__" "UnknownFunction.__init__" (defArgs st_UnknownFunction) (defBody st_UnknownFunction) (defScope st_UnknownFunction) dvs kws f fd) : FnG P w C.K mg base CX0 1 f fd ["self", "value"] (spY C.K .look ["value"]) :=
  fnG_of (k := 0) FD sc_UnknownFunction (spY_len rfl) fun cdv A outer s H vs Q E room h => ⟨_, pss_cons (ps_expr (pe_iniB .look rfl T.z_LookupError PyProof.Rows.Boot.«LookupError» (ne_name rfl) T.vb_LookupError (pa_cons (pe_var rfl (.inl rfl)) (pa_cons pe_str pa_nil rfl) rfl) rfl rfl rfl rfl) rfl) (pss_one (ps_put .look (pe_var rfl (.inl rfl)) (pe_var rfl (.inl rfl)) rfl)), ini1_reads rfl (fun _ _ z => z) h⟩
abbrev st_UnknownWorker : Stmt := clsBody (top 18) 0
theorem sc_UnknownWorker : FnScope ["self", "value"] ["self", "value"] (defScope st_UnknownWorker) := ⟨rfl, rfl, rfl, by decide +kernel, rfl, by decide +kernel, by decide +kernel⟩
theorem ok_UnknownWorker {f : Addr} {fd : FuncData} {dvs : List V} {kws : List (Str × V)} (T : TX C mg) (FD : FunD C.K "__init__" "UnknownWorker.__init__" (defArgs st_UnknownWorker) (defBody st_UnknownWorker) (defScope st_UnknownWorker) dvs kws f fd) : FnG P w C.K mg base CX0 1 f fd ["self", "value"] (spY C.K .look ["value"]) :=
  fnG_of (k := 0) FD sc_UnknownWorker (spY_len rfl) fun cdv A outer s H vs Q E room h => ⟨_, pss_cons (ps_expr (pe_iniB .look rfl T.z_LookupError PyProof.Rows.Boot.«LookupError» (ne_name rfl) T.vb_LookupError (pa_cons (pe_var rfl (.inl rfl)) (pa_cons pe_str pa_nil rfl) rfl) rfl rfl rfl rfl) rfl) (pss_one (ps_put .look (pe_var rfl (.inl rfl)) (pe_var rfl (.inl rfl)) rfl)), ini1_reads rfl (fun _ _ z => z) h⟩
abbrev st_Unsteady : Stmt := clsBody (top 19) 0
theorem sc_Unsteady : FnScope ["self", "certificate"] ["self", "certificate"] (defScope st_Unsteady) := ⟨rfl, rfl, rfl, by decide +kernel, rfl, by decide +kernel, by decide +kernel⟩
theorem ok_Unsteady {f : Addr} {fd : FuncData} {dvs : List V} {kws : List (Str × V)} (T : TX C mg) (FD : FunD C.K "__init__" "Unsteady.__init__" (defArgs st_Unsteady) (defBody st_Unsteady) (defScope st_Unsteady) dvs kws f fd) : FnG P w C.K mg base CX0 1 f fd ["self", "certificate"] (spY C.K .run ["certificate"]) :=
  fnG_of (k := 0) FD sc_Unsteady (spY_len rfl) fun cdv A outer s H vs Q E room h => ⟨_, pss_cons (ps_expr (pe_iniB .run rfl T.z_RuntimeError PyProof.Rows.Boot.«RuntimeError» (ne_name rfl) T.vb_RuntimeError (pa_cons (pe_var rfl (.inl rfl)) (pa_cons pe_str pa_nil rfl) rfl) rfl rfl rfl rfl) rfl) (pss_one (ps_put .run (pe_var rfl (.inl rfl)) (pe_var rfl (.inl rfl)) rfl)), ini1_reads rfl (fun _ _ z => z) h⟩
abbrev st_NotReady : Stmt := clsBody (top 20) 0
theorem sc_NotReady : FnScope ["self", "value"] ["self", "value"] (defScope st_NotReady) := ⟨rfl, rfl, rfl, by decide +kernel, rfl, by decide +kernel, by decide +kernel⟩
theorem ok_NotReady {f : Addr} {fd : FuncData} {dvs : List V} {kws : List (Str × V)} (T : TX C mg) (FD : FunD C.K "__init__" "NotReady.__init__" (defArgs st_NotReady) (defBody st_NotReady) (defScope st_NotReady) dvs kws f fd) : FnG P w C.K mg base CX0 1 f fd ["self", "value"] (spY C.K .run ["value"]) :=
  fnG_of (k := 0) FD sc_NotReady (spY_len rfl) fun cdv A outer s H vs Q E room h => ⟨_, pss_cons (ps_expr (pe_iniB .run rfl T.z_RuntimeError PyProof.Rows.Boot.«RuntimeError» (ne_name rfl) T.vb_RuntimeError (pa_cons (pe_var rfl (.inl rfl)) (pa_cons pe_str pa_nil rfl) rfl) rfl rfl rfl rfl) rfl) (pss_one (ps_put .run (pe_var rfl (.inl rfl)) (pe_var rfl (.inl rfl)) rfl)), ini1_reads rfl (fun _ _ z => z) h⟩
abbrev st_NoMeaning : Stmt := clsBody (top 21) 0
theorem sc_NoMeaning : FnScope ["self", "module", "name"] ["self", "module", "name"] (defScope st_NoMeaning) := ⟨rfl, rfl, rfl, by decide +kernel, rfl, by decide +kernel, by decide +kernel⟩
theorem ok_NoMeaning {f : Addr} {fd : FuncData} {dvs : List V} {kws : List (Str × V)} (T : TX C mg) (FD : FunD C.K "__init__" "NoMeaning.__init__" (defArgs st_NoMeaning) (defBody st_NoMeaning) (defScope st_NoMeaning) dvs kws f fd) : FnG P w C.K mg base CX0 1 f fd ["self", "module", "name"] (spY C.K .run ["module", "name"]) :=
  fnG_of (k := 0) FD sc_NoMeaning (spY_len rfl) fun cdv A outer s H vs Q E room h => ⟨_, pss_cons (ps_expr (pe_iniB .run rfl T.z_RuntimeError PyProof.Rows.Boot.«RuntimeError» (ne_name rfl) T.vb_RuntimeError (pa_cons (pe_var rfl (.inl rfl)) (pa_cons pe_str pa_nil rfl) rfl) rfl rfl rfl rfl) rfl) (pss_cons (ps_put .run (pe_var rfl (.inl rfl)) (pe_var rfl (.inl rfl)) rfl) (pss_one (ps_put .run (pe_var rfl (.inl rfl)) (pe_var rfl (.inl rfl)) rfl))), ini2_reads rfl (fun _ _ z => z) h⟩
abbrev st_Protected : Stmt := clsBody (top 22) 0
theorem sc_Protected : FnScope ["self", "module", "name"] ["self", "module", "name"] (defScope st_Protected) := ⟨rfl, rfl, rfl, by decide +kernel, rfl, by decide +kernel, by decide +kernel⟩
theorem ok_Protected {f : Addr} {fd : FuncData} {dvs : List V} {kws : List (Str × V)} (T : TX C mg) (FD : FunD C.K "__init__" "Protected.__init__" (defArgs st_Protected) (defBody st_Protected) (defScope st_Protected) dvs kws f fd) : FnG P w C.K mg base CX0 1 f fd ["self", "module", "name"] (spY C.K .run ["module", "name"]) :=
  fnG_of (k := 0) FD sc_Protected (spY_len rfl) fun cdv A outer s H vs Q E room h => ⟨_, pss_cons (ps_expr (pe_iniB .run rfl T.z_RuntimeError PyProof.Rows.Boot.«RuntimeError» (ne_name rfl) T.vb_RuntimeError (pa_cons (pe_var rfl (.inl rfl)) (pa_cons pe_str pa_nil rfl) rfl) rfl rfl rfl rfl) rfl) (pss_cons (ps_put .run (pe_var rfl (.inl rfl)) (pe_var rfl (.inl rfl)) rfl) (pss_one (ps_put .run (pe_var rfl (.inl rfl)) (pe_var rfl (.inl rfl)) rfl))), ini2_reads rfl (fun _ _ z => z) h⟩
abbrev st_Missing : Stmt := clsBody (top 23) 0
theorem sc_Missing : FnScope ["self", "place", "path"] ["self", "place", "path"] (defScope st_Missing) := ⟨rfl, rfl, rfl, by decide +kernel, rfl, by decide +kernel, by decide +kernel⟩
theorem ok_Missing {f : Addr} {fd : FuncData} {dvs : List V} {kws : List (Str × V)} (T : TX C mg) (FD : FunD C.K "__init__" "Missing.__init__" (defArgs st_Missing) (defBody st_Missing) (defScope st_Missing) dvs kws f fd) : FnG P w C.K mg base CX0 1 f fd ["self", "place", "path"] (spY C.K .run ["place", "path"]) :=
  fnG_of (k := 0) FD sc_Missing (spY_len rfl) fun cdv A outer s H vs Q E room h => ⟨_, pss_cons (ps_expr (pe_iniB .run rfl T.z_RuntimeError PyProof.Rows.Boot.«RuntimeError» (ne_name rfl) T.vb_RuntimeError (pa_cons (pe_var rfl (.inl rfl)) (pa_cons pe_str pa_nil rfl) rfl) rfl rfl rfl rfl) rfl) (pss_cons (ps_put .run (pe_var rfl (.inl rfl)) (pe_var rfl (.inl rfl)) rfl) (pss_one (ps_put .run (pe_var rfl (.inl rfl)) (pe_var rfl (.inl rfl)) rfl))), ini2_reads rfl (fun _ _ z => z) h⟩
abbrev st_Circular : Stmt := clsBody (top 24) 0
theorem sc_Circular : FnScope ["self", "place"] ["self", "place"] (defScope st_Circular) := ⟨rfl, rfl, rfl, by decide +kernel, rfl, by decide +kernel, by decide +kernel⟩
theorem ok_Circular {f : Addr} {fd : FuncData} {dvs : List V} {kws : List (Str × V)} (T : TX C mg) (FD : FunD C.K "__init__" "Circular.__init__" (defArgs st_Circular) (defBody st_Circular) (defScope st_Circular) dvs kws f fd) : FnG P w C.K mg base CX0 1 f fd ["self", "place"] (spY C.K .run ["place"]) :=
  fnG_of (k := 0) FD sc_Circular (spY_len rfl) fun cdv A outer s H vs Q E room h => ⟨_, pss_cons (ps_expr (pe_iniB .run rfl T.z_RuntimeError PyProof.Rows.Boot.«RuntimeError» (ne_name rfl) T.vb_RuntimeError (pa_cons (pe_var rfl (.inl rfl)) (pa_cons pe_str pa_nil rfl) rfl) rfl rfl rfl rfl) rfl) (pss_one (ps_put .run (pe_var rfl (.inl rfl)) (pe_var rfl (.inl rfl)) rfl)), ini1_reads rfl (fun _ _ z => z) h⟩
abbrev st_NameTaken : Stmt := clsBody (top 25) 0
theorem sc_NameTaken : FnScope ["self", "name"] ["self", "name"] (defScope st_NameTaken) := ⟨rfl, rfl, rfl, by decide +kernel, rfl, by decide +kernel, by decide +kernel⟩
theorem ok_NameTaken {f : Addr} {fd : FuncData} {dvs : List V} {kws : List (Str × V)} (T : TX C mg) (FD : FunD C.K "__init__" "NameTaken.__init__" (defArgs st_NameTaken) (defBody st_NameTaken) (defScope st_NameTaken) dvs kws f fd) : FnG P w C.K mg base CX0 1 f fd ["self", "name"] (spY C.K .run ["name"]) :=
  fnG_of (k := 0) FD sc_NameTaken (spY_len rfl) fun cdv A outer s H vs Q E room h => ⟨_, pss_cons (ps_expr (pe_iniB .run rfl T.z_RuntimeError PyProof.Rows.Boot.«RuntimeError» (ne_name rfl) T.vb_RuntimeError (pa_cons (pe_var rfl (.inl rfl)) (pa_cons pe_str pa_nil rfl) rfl) rfl rfl rfl rfl) rfl) (pss_one (ps_put .run (pe_var rfl (.inl rfl)) (pe_var rfl (.inl rfl)) rfl)), ini1_reads rfl (fun _ _ z => z) h⟩
abbrev st_CallTaken : Stmt := clsBody (top 26) 0
theorem sc_CallTaken : FnScope ["self", "place"] ["self", "place"] (defScope st_CallTaken) := ⟨rfl, rfl, rfl, by decide +kernel, rfl, by decide +kernel, by decide +kernel⟩
theorem ok_CallTaken {f : Addr} {fd : FuncData} {dvs : List V} {kws : List (Str × V)} (T : TX C mg) (FD : FunD C.K "__init__" "CallTaken.__init__" (defArgs st_CallTaken) (defBody st_CallTaken) (defScope st_CallTaken) dvs kws f fd) : FnG P w C.K mg base CX0 1 f fd ["self", "place"] (spY C.K .run ["place"]) :=
  fnG_of (k := 0) FD sc_CallTaken (spY_len rfl) fun cdv A outer s H vs Q E room h => ⟨_, pss_cons (ps_expr (pe_iniB .run rfl T.z_RuntimeError PyProof.Rows.Boot.«RuntimeError» (ne_name rfl) T.vb_RuntimeError (pa_cons (pe_var rfl (.inl rfl)) (pa_cons pe_str pa_nil rfl) rfl) rfl rfl rfl rfl) rfl) (pss_one (ps_put .run (pe_var rfl (.inl rfl)) (pe_var rfl (.inl rfl)) rfl)), ini1_reads rfl (fun _ _ z => z) h⟩
abbrev st_Busy : Stmt := clsBody (top 27) 0
theorem sc_Busy : FnScope ["self", "worker"] ["self", "worker"] (defScope st_Busy) := ⟨rfl, rfl, rfl, by decide +kernel, rfl, by decide +kernel, by decide +kernel⟩
theorem ok_Busy {f : Addr} {fd : FuncData} {dvs : List V} {kws : List (Str × V)} (T : TX C mg) (FD : FunD C.K "__init__" "Busy.__init__" (defArgs st_Busy) (defBody st_Busy) (defScope st_Busy) dvs kws f fd) : FnG P w C.K mg base CX0 1 f fd ["self", "worker"] (spY C.K .run ["worker"]) :=
  fnG_of (k := 0) FD sc_Busy (spY_len rfl) fun cdv A outer s H vs Q E room h => ⟨_, pss_cons (ps_expr (pe_iniB .run rfl T.z_RuntimeError PyProof.Rows.Boot.«RuntimeError» (ne_name rfl) T.vb_RuntimeError (pa_cons (pe_var rfl (.inl rfl)) (pa_cons pe_str pa_nil rfl) rfl) rfl rfl rfl rfl) rfl) (pss_one (ps_put .run (pe_var rfl (.inl rfl)) (pe_var rfl (.inl rfl)) rfl)), ini1_reads rfl (fun _ _ z => z) h⟩
abbrev st_Idle : Stmt := clsBody (top 28) 0
theorem sc_Idle : FnScope ["self", "worker"] ["self", "worker"] (defScope st_Idle) := ⟨rfl, rfl, rfl, by decide +kernel, rfl, by decide +kernel, by decide +kernel⟩
theorem ok_Idle {f : Addr} {fd : FuncData} {dvs : List V} {kws : List (Str × V)} (T : TX C mg) (FD : FunD C.K "__init__" "Idle.__init__" (defArgs st_Idle) (defBody st_Idle) (defScope st_Idle) dvs kws f fd) : FnG P w C.K mg base CX0 1 f fd ["self", "worker"] (spY C.K .run ["worker"]) :=
  fnG_of (k := 0) FD sc_Idle (spY_len rfl) fun cdv A outer s H vs Q E room h => ⟨_, pss_cons (ps_expr (pe_iniB .run rfl T.z_RuntimeError PyProof.Rows.Boot.«RuntimeError» (ne_name rfl) T.vb_RuntimeError (pa_cons (pe_var rfl (.inl rfl)) (pa_cons pe_str pa_nil rfl) rfl) rfl rfl rfl rfl) rfl) (pss_one (ps_put .run (pe_var rfl (.inl rfl)) (pe_var rfl (.inl rfl)) rfl)), ini1_reads rfl (fun _ _ z => z) h⟩
abbrev st_Turned : Stmt := clsBody (top 29) 0
theorem sc_Turned : FnScope ["self", "worker"] ["self", "worker"] (defScope st_Turned) := ⟨rfl, rfl, rfl, by decide +kernel, rfl, by decide +kernel, by decide +kernel⟩
theorem ok_Turned {f : Addr} {fd : FuncData} {dvs : List V} {kws : List (Str × V)} (T : TX C mg) (FD : FunD C.K "__init__" "Turned.__init__" (defArgs st_Turned) (defBody st_Turned) (defScope st_Turned) dvs kws f fd) : FnG P w C.K mg base CX0 1 f fd ["self", "worker"] (spY C.K .run ["worker"]) :=
  fnG_of (k := 0) FD sc_Turned (spY_len rfl) fun cdv A outer s H vs Q E room h => ⟨_, pss_cons (ps_expr (pe_iniB .run rfl T.z_RuntimeError PyProof.Rows.Boot.«RuntimeError» (ne_name rfl) T.vb_RuntimeError (pa_cons (pe_var rfl (.inl rfl)) (pa_cons pe_str pa_nil rfl) rfl) rfl rfl rfl rfl) rfl) (pss_one (ps_put .run (pe_var rfl (.inl rfl)) (pe_var rfl (.inl rfl)) rfl)), ini1_reads rfl (fun _ _ z => z) h⟩
abbrev st_NothingToUndo : Stmt := clsBody (top 30) 0
theorem sc_NothingToUndo : FnScope ["self", "count"] ["self", "count"] (defScope st_NothingToUndo) := ⟨rfl, rfl, rfl, by decide +kernel, rfl, by decide +kernel, by decide +kernel⟩
theorem ok_NothingToUndo {f : Addr} {fd : FuncData} {dvs : List V} {kws : List (Str × V)} (T : TX C mg) (FD : FunD C.K "__init__" "NothingToUndo.__init__" (defArgs st_NothingToUndo) (defBody st_NothingToUndo) (defScope st_NothingToUndo) dvs kws f fd) : FnG P w C.K mg base CX0 1 f fd ["self", "count"] (spY C.K .run ["count"]) :=
  fnG_of (k := 0) FD sc_NothingToUndo (spY_len rfl) fun cdv A outer s H vs Q E room h => ⟨_, pss_cons (ps_expr (pe_iniB .run rfl T.z_RuntimeError PyProof.Rows.Boot.«RuntimeError» (ne_name rfl) T.vb_RuntimeError (pa_cons (pe_var rfl (.inl rfl)) (pa_cons pe_str pa_nil rfl) rfl) rfl rfl rfl rfl) rfl) (pss_one (ps_put .run (pe_var rfl (.inl rfl)) (pe_var rfl (.inl rfl)) rfl)), ini1_reads rfl (fun _ _ z => z) h⟩
abbrev st_CommandFailed : Stmt := clsBody (top 31) 0
theorem sc_CommandFailed : FnScope ["self", "position", "results"] ["self", "position", "results"] (defScope st_CommandFailed) := ⟨rfl, rfl, rfl, by decide +kernel, rfl, by decide +kernel, by decide +kernel⟩
theorem ok_CommandFailed {f : Addr} {fd : FuncData} {dvs : List V} {kws : List (Str × V)} (T : TX C mg) (FD : FunD C.K "__init__" "CommandFailed.__init__" (defArgs st_CommandFailed) (defBody st_CommandFailed) (defScope st_CommandFailed) dvs kws f fd) : FnG P w C.K mg base CX0 1 f fd ["self", "position", "results"] (spY C.K .run ["position", "results"]) :=
  fnG_of (k := 0) FD sc_CommandFailed (spY_len rfl) fun cdv A outer s H vs Q E room h => ⟨_, pss_cons (ps_expr (pe_iniB .run rfl T.z_RuntimeError PyProof.Rows.Boot.«RuntimeError» (ne_name rfl) T.vb_RuntimeError (pa_cons (pe_var rfl (.inl rfl)) (pa_cons pe_str pa_nil rfl) rfl) rfl rfl rfl rfl) rfl) (pss_cons (ps_put .run (pe_var rfl (.inl rfl)) (pe_var rfl (.inl rfl)) rfl) (pss_one (ps_put .run (pe_var rfl (.inl rfl)) (pe_var rfl (.inl rfl)) rfl))), ini2_reads rfl (fun _ _ z => z) h⟩
abbrev st_TooMany : Stmt := clsBody (top 32) 0
theorem sc_TooMany : FnScope ["self", "kind", "limit"] ["self", "kind", "limit"] (defScope st_TooMany) := ⟨rfl, rfl, rfl, by decide +kernel, rfl, by decide +kernel, by decide +kernel⟩
theorem ok_TooMany {f : Addr} {fd : FuncData} {dvs : List V} {kws : List (Str × V)} (T : TX C mg) (FD : FunD C.K "__init__" "TooMany.__init__" (defArgs st_TooMany) (defBody st_TooMany) (defScope st_TooMany) dvs kws f fd) : FnG P w C.K mg base CX0 1 f fd ["self", "kind", "limit"] (spY C.K .arith ["kind", "limit"]) :=
  fnG_of (k := 0) FD sc_TooMany (spY_len rfl) fun cdv A outer s H vs Q E room h => ⟨_, pss_cons (ps_expr (pe_iniB .arith rfl T.z_ArithmeticError PyProof.Rows.Boot.«ArithmeticError» (ne_name rfl) T.vb_ArithmeticError (pa_cons (pe_var rfl (.inl rfl)) (pa_cons pe_str pa_nil rfl) rfl) rfl rfl rfl rfl) rfl) (pss_cons (ps_put .arith (pe_var rfl (.inl rfl)) (pe_var rfl (.inl rfl)) rfl) (pss_one (ps_put .arith (pe_var rfl (.inl rfl)) (pe_var rfl (.inl rfl)) rfl))), ini2_reads rfl (fun _ _ z => z) h⟩
abbrev st__law_rng : Stmt := top 34
theorem sc__law_rng : FnScope ["_law_script", "_law_k", "_law_cell"] ["_law_script", "_law_k"] (defScope st__law_rng) := ⟨rfl, rfl, rfl, by decide +kernel, rfl, by decide +kernel, by decide +kernel⟩
def m__law_rng : MS := (sSeq (sAsg (mite (mbl (mop2 false oLt (mvar 1) (mfun false fLen (mcons (mvar 0) mnil)))) (mfun false fAbs (mcons (mop2 false oIx (mvar 0) (mvar 1)) mnil)) (mc (.int 0))) (gname 2))
  (sRet (mlst true (mcons (mfun false fMax (mcons (mc (.int 0)) (mcons (mop2 false oSub (mvar 2) (mop2 false oPow (mc (.int 10)) (mc (.int 18)))) mnil))) (mcons (mop2 false oAdd (mop2 false oMod (mop2 false oPow (mop2 false oAdd (mop2 false oAdd (mop2 false oMod (mvar 2) (mc (.int 2147483563))) (mop2 false oMul (mc (.int 4099)) (mvar 1))) (mc (.int 17))) (mc (.int 2))) (mc (.int 2147483549))) (mc (.int 1))) mnil)))))
def F__law_rng : FunT := runB 3 m__law_rng
theorem ok__law_rng {f : Addr} {fd : FuncData} {dvs : List V} {kws : List (Str × V)} (T : TX C mg) (FD : FunD C.K "_law_rng" "_law_rng" (defArgs st__law_rng) (defBody st__law_rng) (defScope st__law_rng) dvs kws f fd) : FnG P w C.K mg base CX0 1 f fd ["_law_script", "_law_k"] (spM C 2 F__law_rng) :=
  fn_ok (k := 0) (m := m__law_rng) FD sc__law_rng rfl rfl rfl fun cdv A outer s H E hr =>
  (evss_cons (evs_asg (ev_ite (evt_cmp (ops_cmp op_lt) (ev_pv rfl rfl rfl rfl) (ev_B (fn_len rfl) T.z_len rfl bb_len (evl_cons (ev_pv rfl rfl rfl rfl) evl_nil rfl) rfl rfl rfl) rfl) (ev_B (fn_abs) T.z_abs rfl bb_abs (evl_cons (ev_ix (ix_ok rfl) (ev_pv rfl rfl rfl rfl) (ev_pv rfl rfl rfl rfl) fun _ _ => rfl) evl_nil rfl) rfl rfl rfl) ev_int) (evg_n (i := 2) sc__law_rng.nd rfl rfl) rfl)
  (evss_one (evs_ret (ev_lst (evl_cons (ev_B (fn_max rfl) T.z_max rfl bb_max (evl_cons ev_int (evl_cons (ev_bin ops_sub (ev_pv rfl rfl rfl rfl) (ev_bin ops_pow ev_int ev_int)) evl_nil rfl) rfl) rfl rfl rfl) (evl_cons (ev_bin (ops_add rfl) (ev_bin ops_mod (ev_bin ops_pow (ev_bin (ops_add rfl) (ev_bin (ops_add rfl) (ev_bin ops_mod (ev_pv rfl rfl rfl rfl) ev_int) (ev_bin (ops_mul rfl) ev_int (ev_pv rfl rfl rfl rfl))) ev_int) ev_int) ev_int) ev_int) evl_nil rfl) rfl)))))
abbrev st__law_draw : Stmt := top 35
theorem sc__law_draw : FnScope ["_law_rng_here", "_law_many", "_law_digit"] ["_law_rng_here", "_law_many"] (defScope st__law_draw) := ⟨rfl, rfl, rfl, by decide +kernel, rfl, by decide +kernel, by decide +kernel⟩
def m__law_draw : MS := (sSeq (sIf (mbl (mop2 false oGt (mop2 false oIx (mvar 0) (mc (.int 0))) (mc (.int 0)))) (sSeq (sAsg (mfun false fDivmod (mcons (mop2 false oIx (mvar 0) (mc (.int 0))) (mcons (mvar 1) mnil))) (gtup [(gsub (mvar 0) (mc (.int 0))), (gname 2)]))
  (sRet (mvar 2))) sPass)
  (sSeq (sAsg (mop2 false oMod (mop2 false oAdd (mop2 false oMul (mop2 false oIx (mvar 0) (mc (.int 1))) (mc (.int 39373))) (mc (.int 9311))) (mc (.int 2147483629))) (gsub (mvar 0) (mc (.int 1))))
  (sRet (mop2 false oMod (mop2 false oFdiv (mop2 false oMod (mop2 false oMul (mop2 false oIx (mvar 0) (mc (.int 1))) (mop2 false oIx (mvar 0) (mc (.int 1)))) (mc (.int 2147483563))) (mc (.int 11))) (mvar 1)))))
def F__law_draw : FunT := runB 3 m__law_draw
theorem ok__law_draw {f : Addr} {fd : FuncData} {dvs : List V} {kws : List (Str × V)} (T : TX C mg) (FD : FunD C.K "_law_draw" "_law_draw" (defArgs st__law_draw) (defBody st__law_draw) (defScope st__law_draw) dvs kws f fd) : FnG P w C.K mg base CX0 1 f fd ["_law_rng_here", "_law_many"] (spM C 2 F__law_draw) :=
  fn_ok (k := 0) (m := m__law_draw) FD sc__law_draw rfl rfl rfl fun cdv A outer s H E hr =>
  (evss_cons (evs_if (evt_cmp (ops_cmp op_gt) (ev_ix (ix_ok rfl) (ev_pv rfl rfl rfl rfl) ev_int fun _ _ => rfl) ev_int rfl) (evss_cons (evs_asg (ev_B (fn_divmod) T.z_divmod rfl bb_divmod (evl_cons (ev_ix (ix_ok rfl) (ev_pv rfl rfl rfl rfl) ev_int fun _ _ => rfl) (evl_cons (ev_pv rfl rfl rfl rfl) evl_nil rfl) rfl) rfl rfl rfl) (evg_tup rfl rfl (evgs_cons (evg_sub (W := W0) (ev_pv rfl rfl rfl rfl) ev_int rfl) (evgs_cons (evg_n (i := 2) sc__law_draw.nd rfl rfl) evgs_nil rfl) rfl) rfl rfl) rfl)
  (evss_one (evs_ret (ev_pv rfl rfl rfl rfl)))) evss_nil)
  (evss_cons (evs_asg (ev_bin ops_mod (ev_bin (ops_add rfl) (ev_bin (ops_mul rfl) (ev_ix (ix_ok rfl) (ev_pv rfl rfl rfl rfl) ev_int fun _ _ => rfl) ev_int) ev_int) ev_int) (evg_sub (W := W0) (ev_pv rfl rfl rfl rfl) ev_int rfl) rfl)
  (evss_one (evs_ret (ev_bin ops_mod (ev_bin ops_fdiv (ev_bin ops_mod (ev_bin (ops_mul rfl) (ev_ix (ix_ok rfl) (ev_pv rfl rfl rfl rfl) ev_int fun _ _ => rfl) (ev_ix (ix_ok rfl) (ev_pv rfl rfl rfl rfl) ev_int fun _ _ => rfl)) ev_int) ev_int) (ev_pv rfl rfl rfl rfl))))))
abbrev st__law_choice : Stmt := top 36
theorem sc__law_choice : FnScope ["_law_rng_here", "_law_some"] ["_law_rng_here", "_law_some"] (defScope st__law_choice) := ⟨rfl, rfl, rfl, by decide +kernel, rfl, by decide +kernel, by decide +kernel⟩
def m__law_choice : MS := (sRet (mop2 false oIx (mvar 1) (mcall F__law_draw 2 [] (mcons (mvar 0) (mcons (mfun false fLen (mcons (mvar 1) mnil)) mnil)))))
def F__law_choice : FunT := runB 2 m__law_choice
theorem ok__law_choice {f : Addr} {fd : FuncData} {dvs : List V} {kws : List (Str × V)} (T : TX C mg) (c__law_draw_2 : CallOk C P w mg base CX0 1 "_law_draw" 2 F__law_draw []) (FD : FunD C.K "_law_choice" "_law_choice" (defArgs st__law_choice) (defBody st__law_choice) (defScope st__law_choice) dvs kws f fd) : FnG P w C.K mg base CX0 2 f fd ["_law_rng_here", "_law_some"] (spM C 2 F__law_choice) :=
  fn_ok (k := 1) (m := m__law_choice) FD sc__law_choice rfl rfl rfl fun cdv A outer s H E hr =>
  (evss_one (evs_ret (ev_ix (ix_ok rfl) (ev_pv rfl rfl rfl rfl) (ev_user rfl c__law_draw_2 hr rfl rfl (fun _ => passAt0) (evl_cons (ev_pv rfl rfl rfl rfl) (evl_cons (ev_B (fn_len rfl) T.z_len rfl bb_len (evl_cons (ev_pv rfl rfl rfl rfl) evl_nil rfl) rfl rfl rfl) evl_nil rfl) rfl) rfl rfl) fun _ _ => rfl)))
abbrev st__law_value : Stmt := top 37
theorem sc__law_value : FnScope ["_law_rng_here", "_law_some"] ["_law_rng_here"] (defScope st__law_value) := ⟨rfl, rfl, rfl, by decide +kernel, rfl, by decide +kernel, by decide +kernel⟩
def m__law_value : MS := (sSeq (sAsg (mlst false (mcons (mc .non) (mcons (mc (.bl true)) (mcons (mc (.int 0)) (mcons (mc (.int 7)) (mcons (mc (.str "")) (mcons (mc (.str "text")) (mcons (mtup mnil) (mcons (mtup (mcons (mc (.int 1)) (mcons (mc (.int 2)) mnil))) (mcons (mlst false mnil) (mcons (mlst false (mcons (mc (.str "a")) mnil)) (mcons mdic0 (mcons (mdisp false [((mc (.str "a")), (mc (.int 1)))]) (mcons (mtup (mcons (mc (.str "quarrel")) (mcons (mlst false mnil) mnil))) (mcons (mop2 false oPow (mc (.int 10)) (mc (.int 29))) (mcons (mop1 false oNeg (mc (.int 1))) (mcons (mtup (mcons (mc (.int 0)) mnil)) mnil))))))))))))))))) (gname 1))
  (sRet (mcall F__law_choice 2 [] (mcons (mvar 0) (mcons (mvar 1) mnil)))))
def F__law_value : FunT := runB 2 m__law_value
theorem ok__law_value {f : Addr} {fd : FuncData} {dvs : List V} {kws : List (Str × V)} (T : TX C mg) (c__law_choice_2 : CallOk C P w mg base CX0 2 "_law_choice" 2 F__law_choice []) (FD : FunD C.K "_law_value" "_law_value" (defArgs st__law_value) (defBody st__law_value) (defScope st__law_value) dvs kws f fd) : FnG P w C.K mg base CX0 3 f fd ["_law_rng_here"] (spM C 1 F__law_value) :=
  fn_ok (k := 2) (m := m__law_value) FD sc__law_value rfl rfl rfl fun cdv A outer s H E hr =>
  (evss_cons (evs_asg (ev_lst (evl_cons ev_non (evl_cons ev_bl (evl_cons ev_int (evl_cons ev_int (evl_cons (ev_str rfl) (evl_cons (ev_str rfl) (evl_cons (ev_tup evl_nil) (evl_cons (ev_tup (evl_cons ev_int (evl_cons ev_int evl_nil rfl) rfl)) (evl_cons (ev_lst evl_nil) (evl_cons (ev_lst (evl_cons (ev_str rfl) evl_nil rfl)) (evl_cons ev_dic0 (evl_cons (ev_disp (dsp_cons (ev_str rfl) ev_int dsp_nil) rfl rfl rfl rfl) (evl_cons (ev_tup (evl_cons (ev_str rfl) (evl_cons (ev_lst evl_nil) evl_nil rfl) rfl)) (evl_cons (ev_bin ops_pow ev_int ev_int) (evl_cons (ev_un uns_neg ev_int) (evl_cons (ev_tup (evl_cons ev_int evl_nil rfl)) evl_nil rfl) rfl) rfl) rfl) rfl) rfl) rfl) rfl) rfl) rfl) rfl) rfl) rfl) rfl) rfl) rfl)) (evg_n (i := 1) sc__law_value.nd rfl rfl) rfl)
  (evss_one (evs_ret (ev_user rfl c__law_choice_2 hr rfl rfl (fun _ => passAt0) (evl_cons (ev_pv rfl rfl rfl rfl) (evl_cons (ev_pv rfl rfl rfl rfl) evl_nil rfl) rfl) rfl rfl))))
abbrev st__law_bases : Stmt := top 38
theorem sc__law_bases : FnScope ["_law_e", "_law_found"] ["_law_e"] (defScope st__law_bases) := ⟨rfl, rfl, rfl, by decide +kernel, rfl, by decide +kernel, by decide +kernel⟩
def m__law_bases : MS := (sSeq (sAsg (mlst false (mcons (misx tb_MeantError (mvar 0)) (mcons (misx tb_ValueError (mvar 0)) (mcons (misx tb_LookupError (mvar 0)) mnil)))) (gname 1))
  (sRet (mop2 false oAdd (mvar 1) (mlst false (mcons (misx tb_RuntimeError (mvar 0)) (mcons (misx tb_ArithmeticError (mvar 0)) (mcons (misx tb_Exception (mvar 0)) mnil)))))))
def F__law_bases : FunT := runB 2 m__law_bases
theorem ok__law_bases {f : Addr} {fd : FuncData} {dvs : List V} {kws : List (Str × V)} (T : TX C mg) (FD : FunD C.K "_law_bases" "_law_bases" (defArgs st__law_bases) (defBody st__law_bases) (defScope st__law_bases) dvs kws f fd) : FnG P w C.K mg base CX0 1 f fd ["_law_e"] (spM C 1 F__law_bases) :=
  fn_ok (k := 0) (m := m__law_bases) FD sc__law_bases rfl rfl rfl fun cdv A outer s H E hr =>
  (evss_cons (evs_asg (ev_lst (evl_cons (ev_isxC rfl T.em_MeantError T.exk rfl T.is_MeantError rfl (ev_pv rfl rfl rfl rfl) T.z_isinstance rfl rfl rfl) (evl_cons (ev_isxB rfl T.z_ValueError PyProof.Rows.Boot.«ValueError» T.exk rfl T.is_ValueError rfl (ev_pv rfl rfl rfl rfl) T.z_isinstance rfl rfl rfl rfl) (evl_cons (ev_isxB rfl T.z_LookupError PyProof.Rows.Boot.«LookupError» T.exk rfl T.is_LookupError rfl (ev_pv rfl rfl rfl rfl) T.z_isinstance rfl rfl rfl rfl) evl_nil rfl) rfl) rfl)) (evg_n (i := 1) sc__law_bases.nd rfl rfl) rfl)
  (evss_one (evs_ret (ev_bin (ops_add rfl) (ev_pv rfl rfl rfl rfl) (ev_lst (evl_cons (ev_isxB rfl T.z_RuntimeError PyProof.Rows.Boot.«RuntimeError» T.exk rfl T.is_RuntimeError rfl (ev_pv rfl rfl rfl rfl) T.z_isinstance rfl rfl rfl rfl) (evl_cons (ev_isxB rfl T.z_ArithmeticError PyProof.Rows.Boot.«ArithmeticError» T.exk rfl T.is_ArithmeticError rfl (ev_pv rfl rfl rfl rfl) T.z_isinstance rfl rfl rfl rfl) (evl_cons (ev_isxB rfl T.z_Exception PyProof.Rows.Boot.«Exception» T.exk rfl T.is_Exception rfl (ev_pv rfl rfl rfl rfl) T.z_isinstance rfl rfl rfl rfl) evl_nil rfl) rfl) rfl))))))
abbrev st__law_kinds : Stmt := top 39
theorem sc__law_kinds : FnScope ["_law_e", "_law_found"] ["_law_e"] (defScope st__law_kinds) := ⟨rfl, rfl, rfl, by decide +kernel, rfl, by decide +kernel, by decide +kernel⟩
def m__law_kinds : MS := (sSeq (sAsg (mlst false (mcons (misx tb_InvalidName (mvar 0)) (mcons (misx tb_InvalidPath (mvar 0)) (mcons (misx tb_InvalidArguments (mvar 0)) mnil)))) (gname 1))
  (sSeq (sAsg (mop2 false oAdd (mvar 1) (mlst false (mcons (misx tb_InvalidProgram (mvar 0)) (mcons (misx tb_InvalidOrder (mvar 0)) (mcons (misx tb_InvalidChoices (mvar 0)) mnil))))) (gname 1))
  (sSeq (sAsg (mop2 false oAdd (mvar 1) (mlst false (mcons (misx tb_InvalidPlace (mvar 0)) (mcons (misx tb_InvalidFact (mvar 0)) (mcons (misx tb_InvalidProtected (mvar 0)) mnil))))) (gname 1))
  (sSeq (sAsg (mop2 false oAdd (mvar 1) (mlst false (mcons (misx tb_InvalidCount (mvar 0)) (mcons (misx tb_InvalidText (mvar 0)) (mcons (misx tb_InvalidCommand (mvar 0)) mnil))))) (gname 1))
  (sSeq (sAsg (mop2 false oAdd (mvar 1) (mlst false (mcons (misx tb_UnknownPlace (mvar 0)) (mcons (misx tb_UnknownModule (mvar 0)) (mcons (misx tb_UnknownCall (mvar 0)) mnil))))) (gname 1))
  (sSeq (sAsg (mop2 false oAdd (mvar 1) (mlst false (mcons (misx tb_UnknownFunction (mvar 0)) (mcons (misx tb_UnknownWorker (mvar 0)) (mcons (misx tb_Unsteady (mvar 0)) mnil))))) (gname 1))
  (sSeq (sAsg (mop2 false oAdd (mvar 1) (mlst false (mcons (misx tb_NotReady (mvar 0)) (mcons (misx tb_NoMeaning (mvar 0)) (mcons (misx tb_Protected (mvar 0)) mnil))))) (gname 1))
  (sSeq (sAsg (mop2 false oAdd (mvar 1) (mlst false (mcons (misx tb_Missing (mvar 0)) (mcons (misx tb_Circular (mvar 0)) (mcons (misx tb_NameTaken (mvar 0)) mnil))))) (gname 1))
  (sSeq (sAsg (mop2 false oAdd (mvar 1) (mlst false (mcons (misx tb_CallTaken (mvar 0)) (mcons (misx tb_Busy (mvar 0)) (mcons (misx tb_Idle (mvar 0)) mnil))))) (gname 1))
  (sSeq (sAsg (mop2 false oAdd (mvar 1) (mlst false (mcons (misx tb_Turned (mvar 0)) (mcons (misx tb_NothingToUndo (mvar 0)) mnil)))) (gname 1))
  (sRet (mop2 false oAdd (mvar 1) (mlst false (mcons (misx tb_CommandFailed (mvar 0)) (mcons (misx tb_TooMany (mvar 0)) mnil)))))))))))))))
def F__law_kinds : FunT := runB 2 m__law_kinds
theorem ok__law_kinds {f : Addr} {fd : FuncData} {dvs : List V} {kws : List (Str × V)} (T : TX C mg) (FD : FunD C.K "_law_kinds" "_law_kinds" (defArgs st__law_kinds) (defBody st__law_kinds) (defScope st__law_kinds) dvs kws f fd) : FnG P w C.K mg base CX0 1 f fd ["_law_e"] (spM C 1 F__law_kinds) :=
  fn_ok (k := 0) (m := m__law_kinds) FD sc__law_kinds rfl rfl rfl fun cdv A outer s H E hr =>
  (evss_cons (evs_asg (ev_lst (evl_cons (ev_isxC rfl T.em_InvalidName T.exk rfl T.is_InvalidName rfl (ev_pv rfl rfl rfl rfl) T.z_isinstance rfl rfl rfl) (evl_cons (ev_isxC rfl T.em_InvalidPath T.exk rfl T.is_InvalidPath rfl (ev_pv rfl rfl rfl rfl) T.z_isinstance rfl rfl rfl) (evl_cons (ev_isxC rfl T.em_InvalidArguments T.exk rfl T.is_InvalidArguments rfl (ev_pv rfl rfl rfl rfl) T.z_isinstance rfl rfl rfl) evl_nil rfl) rfl) rfl)) (evg_n (i := 1) sc__law_kinds.nd rfl rfl) rfl)
  (evss_cons (evs_asg (ev_bin (ops_add rfl) (ev_pv rfl rfl rfl rfl) (ev_lst (evl_cons (ev_isxC rfl T.em_InvalidProgram T.exk rfl T.is_InvalidProgram rfl (ev_pv rfl rfl rfl rfl) T.z_isinstance rfl rfl rfl) (evl_cons (ev_isxC rfl T.em_InvalidOrder T.exk rfl T.is_InvalidOrder rfl (ev_pv rfl rfl rfl rfl) T.z_isinstance rfl rfl rfl) (evl_cons (ev_isxC rfl T.em_InvalidChoices T.exk rfl T.is_InvalidChoices rfl (ev_pv rfl rfl rfl rfl) T.z_isinstance rfl rfl rfl) evl_nil rfl) rfl) rfl))) (evg_n (i := 1) sc__law_kinds.nd rfl rfl) rfl)
  (evss_cons (evs_asg (ev_bin (ops_add rfl) (ev_pv rfl rfl rfl rfl) (ev_lst (evl_cons (ev_isxC rfl T.em_InvalidPlace T.exk rfl T.is_InvalidPlace rfl (ev_pv rfl rfl rfl rfl) T.z_isinstance rfl rfl rfl) (evl_cons (ev_isxC rfl T.em_InvalidFact T.exk rfl T.is_InvalidFact rfl (ev_pv rfl rfl rfl rfl) T.z_isinstance rfl rfl rfl) (evl_cons (ev_isxC rfl T.em_InvalidProtected T.exk rfl T.is_InvalidProtected rfl (ev_pv rfl rfl rfl rfl) T.z_isinstance rfl rfl rfl) evl_nil rfl) rfl) rfl))) (evg_n (i := 1) sc__law_kinds.nd rfl rfl) rfl)
  (evss_cons (evs_asg (ev_bin (ops_add rfl) (ev_pv rfl rfl rfl rfl) (ev_lst (evl_cons (ev_isxC rfl T.em_InvalidCount T.exk rfl T.is_InvalidCount rfl (ev_pv rfl rfl rfl rfl) T.z_isinstance rfl rfl rfl) (evl_cons (ev_isxC rfl T.em_InvalidText T.exk rfl T.is_InvalidText rfl (ev_pv rfl rfl rfl rfl) T.z_isinstance rfl rfl rfl) (evl_cons (ev_isxC rfl T.em_InvalidCommand T.exk rfl T.is_InvalidCommand rfl (ev_pv rfl rfl rfl rfl) T.z_isinstance rfl rfl rfl) evl_nil rfl) rfl) rfl))) (evg_n (i := 1) sc__law_kinds.nd rfl rfl) rfl)
  (evss_cons (evs_asg (ev_bin (ops_add rfl) (ev_pv rfl rfl rfl rfl) (ev_lst (evl_cons (ev_isxC rfl T.em_UnknownPlace T.exk rfl T.is_UnknownPlace rfl (ev_pv rfl rfl rfl rfl) T.z_isinstance rfl rfl rfl) (evl_cons (ev_isxC rfl T.em_UnknownModule T.exk rfl T.is_UnknownModule rfl (ev_pv rfl rfl rfl rfl) T.z_isinstance rfl rfl rfl) (evl_cons (ev_isxC rfl T.em_UnknownCall T.exk rfl T.is_UnknownCall rfl (ev_pv rfl rfl rfl rfl) T.z_isinstance rfl rfl rfl) evl_nil rfl) rfl) rfl))) (evg_n (i := 1) sc__law_kinds.nd rfl rfl) rfl)
  (evss_cons (evs_asg (ev_bin (ops_add rfl) (ev_pv rfl rfl rfl rfl) (ev_lst (evl_cons (ev_isxC rfl T.em_UnknownFunction T.exk rfl T.is_UnknownFunction rfl (ev_pv rfl rfl rfl rfl) T.z_isinstance rfl rfl rfl) (evl_cons (ev_isxC rfl T.em_UnknownWorker T.exk rfl T.is_UnknownWorker rfl (ev_pv rfl rfl rfl rfl) T.z_isinstance rfl rfl rfl) (evl_cons (ev_isxC rfl T.em_Unsteady T.exk rfl T.is_Unsteady rfl (ev_pv rfl rfl rfl rfl) T.z_isinstance rfl rfl rfl) evl_nil rfl) rfl) rfl))) (evg_n (i := 1) sc__law_kinds.nd rfl rfl) rfl)
  (evss_cons (evs_asg (ev_bin (ops_add rfl) (ev_pv rfl rfl rfl rfl) (ev_lst (evl_cons (ev_isxC rfl T.em_NotReady T.exk rfl T.is_NotReady rfl (ev_pv rfl rfl rfl rfl) T.z_isinstance rfl rfl rfl) (evl_cons (ev_isxC rfl T.em_NoMeaning T.exk rfl T.is_NoMeaning rfl (ev_pv rfl rfl rfl rfl) T.z_isinstance rfl rfl rfl) (evl_cons (ev_isxC rfl T.em_Protected T.exk rfl T.is_Protected rfl (ev_pv rfl rfl rfl rfl) T.z_isinstance rfl rfl rfl) evl_nil rfl) rfl) rfl))) (evg_n (i := 1) sc__law_kinds.nd rfl rfl) rfl)
  (evss_cons (evs_asg (ev_bin (ops_add rfl) (ev_pv rfl rfl rfl rfl) (ev_lst (evl_cons (ev_isxC rfl T.em_Missing T.exk rfl T.is_Missing rfl (ev_pv rfl rfl rfl rfl) T.z_isinstance rfl rfl rfl) (evl_cons (ev_isxC rfl T.em_Circular T.exk rfl T.is_Circular rfl (ev_pv rfl rfl rfl rfl) T.z_isinstance rfl rfl rfl) (evl_cons (ev_isxC rfl T.em_NameTaken T.exk rfl T.is_NameTaken rfl (ev_pv rfl rfl rfl rfl) T.z_isinstance rfl rfl rfl) evl_nil rfl) rfl) rfl))) (evg_n (i := 1) sc__law_kinds.nd rfl rfl) rfl)
  (evss_cons (evs_asg (ev_bin (ops_add rfl) (ev_pv rfl rfl rfl rfl) (ev_lst (evl_cons (ev_isxC rfl T.em_CallTaken T.exk rfl T.is_CallTaken rfl (ev_pv rfl rfl rfl rfl) T.z_isinstance rfl rfl rfl) (evl_cons (ev_isxC rfl T.em_Busy T.exk rfl T.is_Busy rfl (ev_pv rfl rfl rfl rfl) T.z_isinstance rfl rfl rfl) (evl_cons (ev_isxC rfl T.em_Idle T.exk rfl T.is_Idle rfl (ev_pv rfl rfl rfl rfl) T.z_isinstance rfl rfl rfl) evl_nil rfl) rfl) rfl))) (evg_n (i := 1) sc__law_kinds.nd rfl rfl) rfl)
  (evss_cons (evs_asg (ev_bin (ops_add rfl) (ev_pv rfl rfl rfl rfl) (ev_lst (evl_cons (ev_isxC rfl T.em_Turned T.exk rfl T.is_Turned rfl (ev_pv rfl rfl rfl rfl) T.z_isinstance rfl rfl rfl) (evl_cons (ev_isxC rfl T.em_NothingToUndo T.exk rfl T.is_NothingToUndo rfl (ev_pv rfl rfl rfl rfl) T.z_isinstance rfl rfl rfl) evl_nil rfl) rfl))) (evg_n (i := 1) sc__law_kinds.nd rfl rfl) rfl)
  (evss_one (evs_ret (ev_bin (ops_add rfl) (ev_pv rfl rfl rfl rfl) (ev_lst (evl_cons (ev_isxC rfl T.em_CommandFailed T.exk rfl T.is_CommandFailed rfl (ev_pv rfl rfl rfl rfl) T.z_isinstance rfl rfl rfl) (evl_cons (ev_isxC rfl T.em_TooMany T.exk rfl T.is_TooMany rfl (ev_pv rfl rfl rfl rfl) T.z_isinstance rfl rfl rfl) evl_nil rfl) rfl)))))))))))))))
abbrev st__law_ones_right : Stmt := top 40
theorem sc__law_ones_right : FnScope ["_law_one", "_law_told", "_law_lost", "_law_kinds_here", "_law_e"] ["_law_one"] (defScope st__law_ones_right) := ⟨rfl, rfl, rfl, by decide +kernel, rfl, by decide +kernel, by decide +kernel⟩
def m__law_ones_right : MS := (sSeq (sAsg (mlst false (mcons (mexn 1 ["value"] (mcons (mvar 0) mnil)) (mcons (mexnK 1 ["value"] 1 [0] (mcons (mvar 0) mnil)) (mcons (mexn 2 ["value"] (mcons (mvar 0) mnil)) (mcons (mexnK 2 ["value"] 1 [0] (mcons (mvar 0) mnil)) (mcons (mexn 3 ["value"] (mcons (mvar 0) mnil)) mnil)))))) (gname 1))
  (sSeq (sAsg (mop2 false oAdd (mvar 1) (mlst false (mcons (mexnK 3 ["value"] 1 [0] (mcons (mvar 0) mnil)) (mcons (mexn 6 ["value"] (mcons (mvar 0) mnil)) (mcons (mexnK 6 ["value"] 1 [0] (mcons (mvar 0) mnil)) (mcons (mexn 7 ["value"] (mcons (mvar 0) mnil)) mnil)))))) (gname 1))
  (sSeq (sAsg (mop2 false oAdd (mvar 1) (mlst false (mcons (mexnK 7 ["value"] 1 [0] (mcons (mvar 0) mnil)) (mcons (mexn 8 ["value"] (mcons (mvar 0) mnil)) (mcons (mexnK 8 ["value"] 1 [0] (mcons (mvar 0) mnil)) (mcons (mexn 9 ["value"] (mcons (mvar 0) mnil)) mnil)))))) (gname 1))
  (sSeq (sAsg (mop2 false oAdd (mvar 1) (mlst false (mcons (mexnK 9 ["value"] 1 [0] (mcons (mvar 0) mnil)) (mcons (mexn 10 ["value"] (mcons (mvar 0) mnil)) (mcons (mexnK 10 ["value"] 1 [0] (mcons (mvar 0) mnil)) (mcons (mexn 12 ["value"] (mcons (mvar 0) mnil)) mnil)))))) (gname 1))
  (sSeq (sAsg (mop2 false oAdd (mvar 1) (mlst false (mcons (mexnK 12 ["value"] 1 [0] (mcons (mvar 0) mnil)) mnil))) (gname 1))
  (sSeq (sIf (mnotT (mtru (mfun false fAll (mcons (mcomp false [4] (iseq (mvar 1)) (gname 4) yes (mop2 false oEq (mfun false fReprA (mcons (mxfld cs_value "value" (mvar 4)) mnil)) (mfun false fReprA (mcons (mvar 0) mnil)))) mnil)))) (sRet (mc (.bl false))) sPass)
  (sSeq (sIf (mnotT (mtru (mfun false fAll (mcons (mcomp false [4] (iseq (mvar 1)) (gname 4) yes (mop2 false oEq (mcall F__law_bases 1 [] (mcons (mvar 4) mnil)) (mlst false (mcons (mc (.bl true)) (mcons (mc (.bl true)) (mcons (mc (.bl false)) (mcons (mc (.bl false)) (mcons (mc (.bl false)) (mcons (mc (.bl true)) mnil))))))))) mnil)))) (sRet (mc (.bl false))) sPass)
  (sSeq (sAsg (mlst false (mcons (mexn 13 ["value"] (mcons (mvar 0) mnil)) (mcons (mexnK 13 ["value"] 1 [0] (mcons (mvar 0) mnil)) (mcons (mexn 14 ["value"] (mcons (mvar 0) mnil)) (mcons (mexnK 14 ["value"] 1 [0] (mcons (mvar 0) mnil)) (mcons (mexn 15 ["value"] (mcons (mvar 0) mnil)) mnil)))))) (gname 2))
  (sSeq (sAsg (mop2 false oAdd (mvar 2) (mlst false (mcons (mexnK 15 ["value"] 1 [0] (mcons (mvar 0) mnil)) (mcons (mexn 16 ["value"] (mcons (mvar 0) mnil)) (mcons (mexnK 16 ["value"] 1 [0] (mcons (mvar 0) mnil)) (mcons (mexn 17 ["value"] (mcons (mvar 0) mnil)) mnil)))))) (gname 2))
  (sSeq (sAsg (mop2 false oAdd (mvar 2) (mlst false (mcons (mexnK 17 ["value"] 1 [0] (mcons (mvar 0) mnil)) mnil))) (gname 2))
  (sSeq (sIf (mnotT (mtru (mfun false fAll (mcons (mcomp false [4] (iseq (mvar 2)) (gname 4) yes (mop2 false oEq (mfun false fReprA (mcons (mxfld cs_value "value" (mvar 4)) mnil)) (mfun false fReprA (mcons (mvar 0) mnil)))) mnil)))) (sRet (mc (.bl false))) sPass)
  (sSeq (sIf (mnotT (mtru (mfun false fAll (mcons (mcomp false [4] (iseq (mvar 2)) (gname 4) yes (mop2 false oEq (mcall F__law_bases 1 [] (mcons (mvar 4) mnil)) (mlst false (mcons (mc (.bl false)) (mcons (mc (.bl false)) (mcons (mc (.bl true)) (mcons (mc (.bl false)) (mcons (mc (.bl false)) (mcons (mc (.bl true)) mnil))))))))) mnil)))) (sRet (mc (.bl false))) sPass)
  (sSeq (sAsg (mcomp false [4] (iseq (mop2 false oAdd (mvar 1) (mvar 2))) (gname 4) yes (mfun false fSumB (mcons (mcall F__law_kinds 1 [] (mcons (mvar 4) mnil)) mnil))) (gname 3))
  (sRet (mop2 false oEq (mvar 3) (mop2 false oMul (mlst false (mcons (mc (.int 1)) mnil)) (mfun false fLen (mcons (mvar 3) mnil))))))))))))))))))
def F__law_ones_right : FunT := runB 5 m__law_ones_right
theorem ok__law_ones_right {f : Addr} {fd : FuncData} {dvs : List V} {kws : List (Str × V)} (T : TX C mg) (er_InvalidArguments : ErrOk C P w mg base 1 "InvalidArguments" 3 ["value"]) (ew_InvalidPath : ErrKw C P w mg base 1 "InvalidPath" 2 ["value"] ["value"] [0]) (er_InvalidPath : ErrOk C P w mg base 1 "InvalidPath" 2 ["value"]) (ew_InvalidName : ErrKw C P w mg base 1 "InvalidName" 1 ["value"] ["value"] [0]) (er_InvalidName : ErrOk C P w mg base 1 "InvalidName" 1 ["value"]) (er_InvalidPlace : ErrOk C P w mg base 1 "InvalidPlace" 7 ["value"]) (ew_InvalidChoices : ErrKw C P w mg base 1 "InvalidChoices" 6 ["value"] ["value"] [0]) (er_InvalidChoices : ErrOk C P w mg base 1 "InvalidChoices" 6 ["value"]) (ew_InvalidArguments : ErrKw C P w mg base 1 "InvalidArguments" 3 ["value"] ["value"] [0]) (er_InvalidProtected : ErrOk C P w mg base 1 "InvalidProtected" 9 ["value"]) (ew_InvalidFact : ErrKw C P w mg base 1 "InvalidFact" 8 ["value"] ["value"] [0]) (er_InvalidFact : ErrOk C P w mg base 1 "InvalidFact" 8 ["value"]) (ew_InvalidPlace : ErrKw C P w mg base 1 "InvalidPlace" 7 ["value"] ["value"] [0]) (er_InvalidCommand : ErrOk C P w mg base 1 "InvalidCommand" 12 ["value"]) (ew_InvalidCount : ErrKw C P w mg base 1 "InvalidCount" 10 ["value"] ["value"] [0]) (er_InvalidCount : ErrOk C P w mg base 1 "InvalidCount" 10 ["value"]) (ew_InvalidProtected : ErrKw C P w mg base 1 "InvalidProtected" 9 ["value"] ["value"] [0]) (ew_InvalidCommand : ErrKw C P w mg base 1 "InvalidCommand" 12 ["value"] ["value"] [0]) (c__law_bases_1 : CallOk C P w mg base CX0 1 "_law_bases" 1 F__law_bases []) (er_UnknownCall : ErrOk C P w mg base 1 "UnknownCall" 15 ["value"]) (ew_UnknownModule : ErrKw C P w mg base 1 "UnknownModule" 14 ["value"] ["value"] [0]) (er_UnknownModule : ErrOk C P w mg base 1 "UnknownModule" 14 ["value"]) (ew_UnknownPlace : ErrKw C P w mg base 1 "UnknownPlace" 13 ["value"] ["value"] [0]) (er_UnknownPlace : ErrOk C P w mg base 1 "UnknownPlace" 13 ["value"]) (er_UnknownWorker : ErrOk C P w mg base 1 "UnknownWorker" 17 ["value"]) (ew_UnknownFunction : ErrKw C P w mg base 1 "UnknownFunction" 16 ["value"] ["value"] [0]) (er_UnknownFunction : ErrOk C P w mg base 1 "UnknownFunction" 16 ["value"]) (ew_UnknownCall : ErrKw C P w mg base 1 "UnknownCall" 15 ["value"] ["value"] [0]) (ew_UnknownWorker : ErrKw C P w mg base 1 "UnknownWorker" 17 ["value"] ["value"] [0]) (c__law_kinds_1 : CallOk C P w mg base CX0 1 "_law_kinds" 1 F__law_kinds []) (FD : FunD C.K "_law_ones_right" "_law_ones_right" (defArgs st__law_ones_right) (defBody st__law_ones_right) (defScope st__law_ones_right) dvs kws f fd) : FnG P w C.K mg base CX0 3 f fd ["_law_one"] (spM C 1 F__law_ones_right) :=
  fn_ok (k := 2) (m := m__law_ones_right) FD sc__law_ones_right rfl rfl rfl fun cdv A outer s H E hr =>
  (evss_cons (evs_asg (ev_lst (evl_cons (ev_exn rfl er_InvalidName hr rfl rfl (evl_cons (ev_pv rfl rfl rfl rfl) evl_nil rfl) (Nat.le_of_ble_eq_true rfl) rfl rfl) (evl_cons (ev_exnK rfl ew_InvalidName hr rfl rfl (evk_cons (ev_pv rfl rfl rfl rfl) evk_nil) rfl rfl rfl rfl) (evl_cons (ev_exn rfl er_InvalidPath hr rfl rfl (evl_cons (ev_pv rfl rfl rfl rfl) evl_nil rfl) (Nat.le_of_ble_eq_true rfl) rfl rfl) (evl_cons (ev_exnK rfl ew_InvalidPath hr rfl rfl (evk_cons (ev_pv rfl rfl rfl rfl) evk_nil) rfl rfl rfl rfl) (evl_cons (ev_exn rfl er_InvalidArguments hr rfl rfl (evl_cons (ev_pv rfl rfl rfl rfl) evl_nil rfl) (Nat.le_of_ble_eq_true rfl) rfl rfl) evl_nil rfl) rfl) rfl) rfl) rfl)) (evg_n (i := 1) sc__law_ones_right.nd rfl rfl) rfl)
  (evss_cons (evs_asg (ev_bin (ops_add rfl) (ev_pv rfl rfl rfl rfl) (ev_lst (evl_cons (ev_exnK rfl ew_InvalidArguments hr rfl rfl (evk_cons (ev_pv rfl rfl rfl rfl) evk_nil) rfl rfl rfl rfl) (evl_cons (ev_exn rfl er_InvalidChoices hr rfl rfl (evl_cons (ev_pv rfl rfl rfl rfl) evl_nil rfl) (Nat.le_of_ble_eq_true rfl) rfl rfl) (evl_cons (ev_exnK rfl ew_InvalidChoices hr rfl rfl (evk_cons (ev_pv rfl rfl rfl rfl) evk_nil) rfl rfl rfl rfl) (evl_cons (ev_exn rfl er_InvalidPlace hr rfl rfl (evl_cons (ev_pv rfl rfl rfl rfl) evl_nil rfl) (Nat.le_of_ble_eq_true rfl) rfl rfl) evl_nil rfl) rfl) rfl) rfl))) (evg_n (i := 1) sc__law_ones_right.nd rfl rfl) rfl)
  (evss_cons (evs_asg (ev_bin (ops_add rfl) (ev_pv rfl rfl rfl rfl) (ev_lst (evl_cons (ev_exnK rfl ew_InvalidPlace hr rfl rfl (evk_cons (ev_pv rfl rfl rfl rfl) evk_nil) rfl rfl rfl rfl) (evl_cons (ev_exn rfl er_InvalidFact hr rfl rfl (evl_cons (ev_pv rfl rfl rfl rfl) evl_nil rfl) (Nat.le_of_ble_eq_true rfl) rfl rfl) (evl_cons (ev_exnK rfl ew_InvalidFact hr rfl rfl (evk_cons (ev_pv rfl rfl rfl rfl) evk_nil) rfl rfl rfl rfl) (evl_cons (ev_exn rfl er_InvalidProtected hr rfl rfl (evl_cons (ev_pv rfl rfl rfl rfl) evl_nil rfl) (Nat.le_of_ble_eq_true rfl) rfl rfl) evl_nil rfl) rfl) rfl) rfl))) (evg_n (i := 1) sc__law_ones_right.nd rfl rfl) rfl)
  (evss_cons (evs_asg (ev_bin (ops_add rfl) (ev_pv rfl rfl rfl rfl) (ev_lst (evl_cons (ev_exnK rfl ew_InvalidProtected hr rfl rfl (evk_cons (ev_pv rfl rfl rfl rfl) evk_nil) rfl rfl rfl rfl) (evl_cons (ev_exn rfl er_InvalidCount hr rfl rfl (evl_cons (ev_pv rfl rfl rfl rfl) evl_nil rfl) (Nat.le_of_ble_eq_true rfl) rfl rfl) (evl_cons (ev_exnK rfl ew_InvalidCount hr rfl rfl (evk_cons (ev_pv rfl rfl rfl rfl) evk_nil) rfl rfl rfl rfl) (evl_cons (ev_exn rfl er_InvalidCommand hr rfl rfl (evl_cons (ev_pv rfl rfl rfl rfl) evl_nil rfl) (Nat.le_of_ble_eq_true rfl) rfl rfl) evl_nil rfl) rfl) rfl) rfl))) (evg_n (i := 1) sc__law_ones_right.nd rfl rfl) rfl)
  (evss_cons (evs_asg (ev_bin (ops_add rfl) (ev_pv rfl rfl rfl rfl) (ev_lst (evl_cons (ev_exnK rfl ew_InvalidCommand hr rfl rfl (evk_cons (ev_pv rfl rfl rfl rfl) evk_nil) rfl rfl rfl rfl) evl_nil rfl))) (evg_n (i := 1) sc__law_ones_right.nd rfl rfl) rfl)
  (evss_cons (evs_if (evt_not (evt_tru rfl (ev_B (fn_all rfl rfl) T.z_all rfl bb_all (evl_cons (ev_comp (own := [("_law_e", 4)]) rfl sc__law_ones_right.nd (by decide) (evi_seq rfl (ev_pv rfl rfl rfl rfl)) (blkOk_by rfl) (fun s H Cc cl fp => (evg_n (i := 4) sc__law_ones_right.nd rfl rfl)) (fun s H Cc cl fp => pts_nil) yes_t (fun s H Cc cl fp => (ev_cmp (ops_eq rfl hr.room64) (ev_B (fn_reprA rfl hr.quiet hr.room64) T.z_repr rfl bb_repr (evl_cons (ev_xfld rfl T.xf_value (ev_pv rfl rfl rfl rfl) rfl) evl_nil rfl) rfl rfl rfl) (ev_B (fn_reprA rfl hr.quiet hr.room64) T.z_repr rfl bb_repr (evl_cons (ev_pv rfl rfl rfl rfl) evl_nil rfl) rfl rfl rfl) rfl)) fun _ => rfl) evl_nil rfl) rfl rfl rfl) rfl)) (evss_one (evs_ret ev_bl)) evss_nil)
  (evss_cons (evs_if (evt_not (evt_tru rfl (ev_B (fn_all rfl rfl) T.z_all rfl bb_all (evl_cons (ev_comp (own := [("_law_e", 4)]) rfl sc__law_ones_right.nd (by decide) (evi_seq rfl (ev_pv rfl rfl rfl rfl)) (blkOk_by rfl) (fun s H Cc cl fp => (evg_n (i := 4) sc__law_ones_right.nd rfl rfl)) (fun s H Cc cl fp => pts_nil) yes_t (fun s H Cc cl fp => (ev_cmp (ops_eq rfl hr.room64) (ev_user rfl c__law_bases_1 hr rfl rfl (fun _ => passAt0) (evl_cons (ev_pv rfl rfl rfl rfl) evl_nil rfl) rfl rfl) (ev_lst (evl_cons ev_bl (evl_cons ev_bl (evl_cons ev_bl (evl_cons ev_bl (evl_cons ev_bl (evl_cons ev_bl evl_nil rfl) rfl) rfl) rfl) rfl) rfl)) rfl)) fun _ => rfl) evl_nil rfl) rfl rfl rfl) rfl)) (evss_one (evs_ret ev_bl)) evss_nil)
  (evss_cons (evs_asg (ev_lst (evl_cons (ev_exn rfl er_UnknownPlace hr rfl rfl (evl_cons (ev_pv rfl rfl rfl rfl) evl_nil rfl) (Nat.le_of_ble_eq_true rfl) rfl rfl) (evl_cons (ev_exnK rfl ew_UnknownPlace hr rfl rfl (evk_cons (ev_pv rfl rfl rfl rfl) evk_nil) rfl rfl rfl rfl) (evl_cons (ev_exn rfl er_UnknownModule hr rfl rfl (evl_cons (ev_pv rfl rfl rfl rfl) evl_nil rfl) (Nat.le_of_ble_eq_true rfl) rfl rfl) (evl_cons (ev_exnK rfl ew_UnknownModule hr rfl rfl (evk_cons (ev_pv rfl rfl rfl rfl) evk_nil) rfl rfl rfl rfl) (evl_cons (ev_exn rfl er_UnknownCall hr rfl rfl (evl_cons (ev_pv rfl rfl rfl rfl) evl_nil rfl) (Nat.le_of_ble_eq_true rfl) rfl rfl) evl_nil rfl) rfl) rfl) rfl) rfl)) (evg_n (i := 2) sc__law_ones_right.nd rfl rfl) rfl)
  (evss_cons (evs_asg (ev_bin (ops_add rfl) (ev_pv rfl rfl rfl rfl) (ev_lst (evl_cons (ev_exnK rfl ew_UnknownCall hr rfl rfl (evk_cons (ev_pv rfl rfl rfl rfl) evk_nil) rfl rfl rfl rfl) (evl_cons (ev_exn rfl er_UnknownFunction hr rfl rfl (evl_cons (ev_pv rfl rfl rfl rfl) evl_nil rfl) (Nat.le_of_ble_eq_true rfl) rfl rfl) (evl_cons (ev_exnK rfl ew_UnknownFunction hr rfl rfl (evk_cons (ev_pv rfl rfl rfl rfl) evk_nil) rfl rfl rfl rfl) (evl_cons (ev_exn rfl er_UnknownWorker hr rfl rfl (evl_cons (ev_pv rfl rfl rfl rfl) evl_nil rfl) (Nat.le_of_ble_eq_true rfl) rfl rfl) evl_nil rfl) rfl) rfl) rfl))) (evg_n (i := 2) sc__law_ones_right.nd rfl rfl) rfl)
  (evss_cons (evs_asg (ev_bin (ops_add rfl) (ev_pv rfl rfl rfl rfl) (ev_lst (evl_cons (ev_exnK rfl ew_UnknownWorker hr rfl rfl (evk_cons (ev_pv rfl rfl rfl rfl) evk_nil) rfl rfl rfl rfl) evl_nil rfl))) (evg_n (i := 2) sc__law_ones_right.nd rfl rfl) rfl)
  (evss_cons (evs_if (evt_not (evt_tru rfl (ev_B (fn_all rfl rfl) T.z_all rfl bb_all (evl_cons (ev_comp (own := [("_law_e", 4)]) rfl sc__law_ones_right.nd (by decide) (evi_seq rfl (ev_pv rfl rfl rfl rfl)) (blkOk_by rfl) (fun s H Cc cl fp => (evg_n (i := 4) sc__law_ones_right.nd rfl rfl)) (fun s H Cc cl fp => pts_nil) yes_t (fun s H Cc cl fp => (ev_cmp (ops_eq rfl hr.room64) (ev_B (fn_reprA rfl hr.quiet hr.room64) T.z_repr rfl bb_repr (evl_cons (ev_xfld rfl T.xf_value (ev_pv rfl rfl rfl rfl) rfl) evl_nil rfl) rfl rfl rfl) (ev_B (fn_reprA rfl hr.quiet hr.room64) T.z_repr rfl bb_repr (evl_cons (ev_pv rfl rfl rfl rfl) evl_nil rfl) rfl rfl rfl) rfl)) fun _ => rfl) evl_nil rfl) rfl rfl rfl) rfl)) (evss_one (evs_ret ev_bl)) evss_nil)
  (evss_cons (evs_if (evt_not (evt_tru rfl (ev_B (fn_all rfl rfl) T.z_all rfl bb_all (evl_cons (ev_comp (own := [("_law_e", 4)]) rfl sc__law_ones_right.nd (by decide) (evi_seq rfl (ev_pv rfl rfl rfl rfl)) (blkOk_by rfl) (fun s H Cc cl fp => (evg_n (i := 4) sc__law_ones_right.nd rfl rfl)) (fun s H Cc cl fp => pts_nil) yes_t (fun s H Cc cl fp => (ev_cmp (ops_eq rfl hr.room64) (ev_user rfl c__law_bases_1 hr rfl rfl (fun _ => passAt0) (evl_cons (ev_pv rfl rfl rfl rfl) evl_nil rfl) rfl rfl) (ev_lst (evl_cons ev_bl (evl_cons ev_bl (evl_cons ev_bl (evl_cons ev_bl (evl_cons ev_bl (evl_cons ev_bl evl_nil rfl) rfl) rfl) rfl) rfl) rfl)) rfl)) fun _ => rfl) evl_nil rfl) rfl rfl rfl) rfl)) (evss_one (evs_ret ev_bl)) evss_nil)
  (evss_cons (evs_setC (i := 3) (own := [("_law_e", 4)]) rfl sc__law_ones_right.nd (by decide) rfl rfl (sw_true rfl rfl rfl rfl) (evi_seq rfl (ev_bin (ops_add rfl) (ev_pv rfl rfl rfl rfl) (ev_pv rfl rfl rfl rfl))) (blkOk_by rfl) (fun s H Cc cl fp => (evg_n (i := 4) sc__law_ones_right.nd rfl rfl)) (fun s H Cc cl fp => pts_nil) yes_t (fun s H Cc cl fp => (ev_B (fn_sumB rfl rfl) T.z_sum rfl bb_sum (evl_cons (ev_user rfl c__law_kinds_1 hr rfl rfl (fun _ => passAt0) (evl_cons (ev_pv rfl rfl rfl rfl) evl_nil rfl) rfl rfl) evl_nil rfl) rfl rfl rfl)) fun _ => rfl)
  (evss_one (evs_ret (ev_cmp (ops_eq rfl hr.room64) (ev_pv rfl rfl rfl rfl) (ev_bin (ops_mul rfl) (ev_lst (evl_cons ev_int evl_nil rfl)) (ev_B (fn_len rfl) T.z_len rfl bb_len (evl_cons (ev_pv rfl rfl rfl rfl) evl_nil rfl) rfl rfl rfl)) rfl))))))))))))))))
abbrev st__law_states_right : Stmt := top 41
theorem sc__law_states_right : FnScope ["_law_one", "_law_told", "_law_e", "_law_kept", "_law_kinds_here"] ["_law_one"] (defScope st__law_states_right) := ⟨rfl, rfl, rfl, by decide +kernel, rfl, by decide +kernel, by decide +kernel⟩
def m__law_states_right : MS := (sSeq (sAsg (mcomp false [2] (iseq (mtup (mcons (mexn 18 ["certificate"] (mcons (mvar 0) mnil)) (mcons (mexnK 18 ["certificate"] 1 [0] (mcons (mvar 0) mnil)) mnil)))) (gname 2) yes (mlst false (mcons (mvar 2) (mcons (mxfld cs_certificate "certificate" (mvar 2)) mnil)))) (gname 1))
  (sSeq (sAsg (mop2 false oAdd (mvar 1) (mcomp false [2] (iseq (mtup (mcons (mexn 19 ["value"] (mcons (mvar 0) mnil)) (mcons (mexnK 19 ["value"] 1 [0] (mcons (mvar 0) mnil)) mnil)))) (gname 2) yes (mlst false (mcons (mvar 2) (mcons (mxfld cs_value "value" (mvar 2)) mnil))))) (gname 1))
  (sSeq (sAsg (mop2 false oAdd (mvar 1) (mcomp false [2] (iseq (mtup (mcons (mexn 23 ["place"] (mcons (mvar 0) mnil)) (mcons (mexnK 23 ["place"] 1 [0] (mcons (mvar 0) mnil)) (mcons (mexn 25 ["place"] (mcons (mvar 0) mnil)) (mcons (mexnK 25 ["place"] 1 [0] (mcons (mvar 0) mnil)) mnil)))))) (gname 2) yes (mlst false (mcons (mvar 2) (mcons (mxfld cs_place "place" (mvar 2)) mnil))))) (gname 1))
  (sSeq (sAsg (mop2 false oAdd (mvar 1) (mcomp false [2] (iseq (mtup (mcons (mexn 24 ["name"] (mcons (mvar 0) mnil)) (mcons (mexnK 24 ["name"] 1 [0] (mcons (mvar 0) mnil)) mnil)))) (gname 2) yes (mlst false (mcons (mvar 2) (mcons (mxfld cs_name "name" (mvar 2)) mnil))))) (gname 1))
  (sSeq (sAsg (mop2 false oAdd (mvar 1) (mcomp false [2] (iseq (mtup (mcons (mexn 26 ["worker"] (mcons (mvar 0) mnil)) (mcons (mexnK 26 ["worker"] 1 [0] (mcons (mvar 0) mnil)) (mcons (mexn 27 ["worker"] (mcons (mvar 0) mnil)) (mcons (mexnK 27 ["worker"] 1 [0] (mcons (mvar 0) mnil)) (mcons (mexn 28 ["worker"] (mcons (mvar 0) mnil)) mnil))))))) (gname 2) yes (mlst false (mcons (mvar 2) (mcons (mxfld cs_worker "worker" (mvar 2)) mnil))))) (gname 1))
  (sSeq (sAsg (mop2 false oAdd (mvar 1) (mcomp false [2] (iseq (mtup (mcons (mexnK 28 ["worker"] 1 [0] (mcons (mvar 0) mnil)) mnil))) (gname 2) yes (mlst false (mcons (mvar 2) (mcons (mxfld cs_worker "worker" (mvar 2)) mnil))))) (gname 1))
  (sSeq (sAsg (mop2 false oAdd (mvar 1) (mcomp false [2] (iseq (mtup (mcons (mexn 29 ["count"] (mcons (mvar 0) mnil)) (mcons (mexnK 29 ["count"] 1 [0] (mcons (mvar 0) mnil)) mnil)))) (gname 2) yes (mlst false (mcons (mvar 2) (mcons (mxfld cs_count "count" (mvar 2)) mnil))))) (gname 1))
  (sSeq (sFor (iseq (mvar 1)) (gtup [(gname 2), (gname 3)]) (sIf (morT (mbl (mop2 false oNe (mfun false fReprA (mcons (mvar 3) mnil)) (mfun false fReprA (mcons (mvar 0) mnil)))) (mbl (mop2 false oNe (mcall F__law_bases 1 [] (mcons (mvar 2) mnil)) (mlst false (mcons (mc (.bl false)) (mcons (mc (.bl false)) (mcons (mc (.bl false)) (mcons (mc (.bl true)) (mcons (mc (.bl false)) (mcons (mc (.bl true)) mnil)))))))))) (sRet (mc (.bl false))) sPass))
  (sSeq (sAsg (mcomp false [2, 3] (iseq (mvar 1)) (gtup [(gname 2), (gname 3)]) yes (mfun false fSumB (mcons (mcall F__law_kinds 1 [] (mcons (mvar 2) mnil)) mnil))) (gname 4))
  (sRet (mop2 false oEq (mvar 4) (mop2 false oMul (mlst false (mcons (mc (.int 1)) mnil)) (mfun false fLen (mcons (mvar 4) mnil))))))))))))))
def F__law_states_right : FunT := runB 5 m__law_states_right
theorem ok__law_states_right {f : Addr} {fd : FuncData} {dvs : List V} {kws : List (Str × V)} (T : TX C mg) (ew_Unsteady : ErrKw C P w mg base 1 "Unsteady" 18 ["certificate"] ["certificate"] [0]) (er_Unsteady : ErrOk C P w mg base 1 "Unsteady" 18 ["certificate"]) (ew_NotReady : ErrKw C P w mg base 1 "NotReady" 19 ["value"] ["value"] [0]) (er_NotReady : ErrOk C P w mg base 1 "NotReady" 19 ["value"]) (ew_CallTaken : ErrKw C P w mg base 1 "CallTaken" 25 ["place"] ["place"] [0]) (er_CallTaken : ErrOk C P w mg base 1 "CallTaken" 25 ["place"]) (ew_Circular : ErrKw C P w mg base 1 "Circular" 23 ["place"] ["place"] [0]) (er_Circular : ErrOk C P w mg base 1 "Circular" 23 ["place"]) (ew_NameTaken : ErrKw C P w mg base 1 "NameTaken" 24 ["name"] ["name"] [0]) (er_NameTaken : ErrOk C P w mg base 1 "NameTaken" 24 ["name"]) (er_Turned : ErrOk C P w mg base 1 "Turned" 28 ["worker"]) (ew_Idle : ErrKw C P w mg base 1 "Idle" 27 ["worker"] ["worker"] [0]) (er_Idle : ErrOk C P w mg base 1 "Idle" 27 ["worker"]) (ew_Busy : ErrKw C P w mg base 1 "Busy" 26 ["worker"] ["worker"] [0]) (er_Busy : ErrOk C P w mg base 1 "Busy" 26 ["worker"]) (ew_Turned : ErrKw C P w mg base 1 "Turned" 28 ["worker"] ["worker"] [0]) (ew_NothingToUndo : ErrKw C P w mg base 1 "NothingToUndo" 29 ["count"] ["count"] [0]) (er_NothingToUndo : ErrOk C P w mg base 1 "NothingToUndo" 29 ["count"]) (c__law_bases_1 : CallOk C P w mg base CX0 1 "_law_bases" 1 F__law_bases []) (c__law_kinds_1 : CallOk C P w mg base CX0 1 "_law_kinds" 1 F__law_kinds []) (FD : FunD C.K "_law_states_right" "_law_states_right" (defArgs st__law_states_right) (defBody st__law_states_right) (defScope st__law_states_right) dvs kws f fd) : FnG P w C.K mg base CX0 3 f fd ["_law_one"] (spM C 1 F__law_states_right) :=
  fn_ok (k := 2) (m := m__law_states_right) FD sc__law_states_right rfl rfl rfl fun cdv A outer s H E hr =>
  (evss_cons (evs_setC (i := 1) (own := [("_law_e", 2)]) rfl sc__law_states_right.nd (by decide) rfl rfl (sw_true rfl rfl rfl rfl) (evi_seq rfl (ev_tup (evl_cons (ev_exn rfl er_Unsteady hr rfl rfl (evl_cons (ev_pv rfl rfl rfl rfl) evl_nil rfl) (Nat.le_of_ble_eq_true rfl) rfl rfl) (evl_cons (ev_exnK rfl ew_Unsteady hr rfl rfl (evk_cons (ev_pv rfl rfl rfl rfl) evk_nil) rfl rfl rfl rfl) evl_nil rfl) rfl))) (blkOk_by rfl) (fun s H Cc cl fp => (evg_n (i := 2) sc__law_states_right.nd rfl rfl)) (fun s H Cc cl fp => pts_nil) yes_t (fun s H Cc cl fp => (ev_lst (evl_cons (ev_pv rfl rfl rfl rfl) (evl_cons (ev_xfld rfl T.xf_certificate (ev_pv rfl rfl rfl rfl) rfl) evl_nil rfl) rfl))) fun _ => rfl)
  (evss_cons (evs_asg (ev_bin (ops_add rfl) (ev_pv rfl rfl rfl rfl) (ev_comp (own := [("_law_e", 2)]) rfl sc__law_states_right.nd (by decide) (evi_seq rfl (ev_tup (evl_cons (ev_exn rfl er_NotReady hr rfl rfl (evl_cons (ev_pv rfl rfl rfl rfl) evl_nil rfl) (Nat.le_of_ble_eq_true rfl) rfl rfl) (evl_cons (ev_exnK rfl ew_NotReady hr rfl rfl (evk_cons (ev_pv rfl rfl rfl rfl) evk_nil) rfl rfl rfl rfl) evl_nil rfl) rfl))) (blkOk_by rfl) (fun s H Cc cl fp => (evg_n (i := 2) sc__law_states_right.nd rfl rfl)) (fun s H Cc cl fp => pts_nil) yes_t (fun s H Cc cl fp => (ev_lst (evl_cons (ev_pv rfl rfl rfl rfl) (evl_cons (ev_xfld rfl T.xf_value (ev_pv rfl rfl rfl rfl) rfl) evl_nil rfl) rfl))) fun _ => rfl)) (evg_n (i := 1) sc__law_states_right.nd rfl rfl) rfl)
  (evss_cons (evs_asg (ev_bin (ops_add rfl) (ev_pv rfl rfl rfl rfl) (ev_comp (own := [("_law_e", 2)]) rfl sc__law_states_right.nd (by decide) (evi_seq rfl (ev_tup (evl_cons (ev_exn rfl er_Circular hr rfl rfl (evl_cons (ev_pv rfl rfl rfl rfl) evl_nil rfl) (Nat.le_of_ble_eq_true rfl) rfl rfl) (evl_cons (ev_exnK rfl ew_Circular hr rfl rfl (evk_cons (ev_pv rfl rfl rfl rfl) evk_nil) rfl rfl rfl rfl) (evl_cons (ev_exn rfl er_CallTaken hr rfl rfl (evl_cons (ev_pv rfl rfl rfl rfl) evl_nil rfl) (Nat.le_of_ble_eq_true rfl) rfl rfl) (evl_cons (ev_exnK rfl ew_CallTaken hr rfl rfl (evk_cons (ev_pv rfl rfl rfl rfl) evk_nil) rfl rfl rfl rfl) evl_nil rfl) rfl) rfl) rfl))) (blkOk_by rfl) (fun s H Cc cl fp => (evg_n (i := 2) sc__law_states_right.nd rfl rfl)) (fun s H Cc cl fp => pts_nil) yes_t (fun s H Cc cl fp => (ev_lst (evl_cons (ev_pv rfl rfl rfl rfl) (evl_cons (ev_xfld rfl T.xf_place (ev_pv rfl rfl rfl rfl) rfl) evl_nil rfl) rfl))) fun _ => rfl)) (evg_n (i := 1) sc__law_states_right.nd rfl rfl) rfl)
  (evss_cons (evs_asg (ev_bin (ops_add rfl) (ev_pv rfl rfl rfl rfl) (ev_comp (own := [("_law_e", 2)]) rfl sc__law_states_right.nd (by decide) (evi_seq rfl (ev_tup (evl_cons (ev_exn rfl er_NameTaken hr rfl rfl (evl_cons (ev_pv rfl rfl rfl rfl) evl_nil rfl) (Nat.le_of_ble_eq_true rfl) rfl rfl) (evl_cons (ev_exnK rfl ew_NameTaken hr rfl rfl (evk_cons (ev_pv rfl rfl rfl rfl) evk_nil) rfl rfl rfl rfl) evl_nil rfl) rfl))) (blkOk_by rfl) (fun s H Cc cl fp => (evg_n (i := 2) sc__law_states_right.nd rfl rfl)) (fun s H Cc cl fp => pts_nil) yes_t (fun s H Cc cl fp => (ev_lst (evl_cons (ev_pv rfl rfl rfl rfl) (evl_cons (ev_xfld rfl T.xf_name (ev_pv rfl rfl rfl rfl) rfl) evl_nil rfl) rfl))) fun _ => rfl)) (evg_n (i := 1) sc__law_states_right.nd rfl rfl) rfl)
  (evss_cons (evs_asg (ev_bin (ops_add rfl) (ev_pv rfl rfl rfl rfl) (ev_comp (own := [("_law_e", 2)]) rfl sc__law_states_right.nd (by decide) (evi_seq rfl (ev_tup (evl_cons (ev_exn rfl er_Busy hr rfl rfl (evl_cons (ev_pv rfl rfl rfl rfl) evl_nil rfl) (Nat.le_of_ble_eq_true rfl) rfl rfl) (evl_cons (ev_exnK rfl ew_Busy hr rfl rfl (evk_cons (ev_pv rfl rfl rfl rfl) evk_nil) rfl rfl rfl rfl) (evl_cons (ev_exn rfl er_Idle hr rfl rfl (evl_cons (ev_pv rfl rfl rfl rfl) evl_nil rfl) (Nat.le_of_ble_eq_true rfl) rfl rfl) (evl_cons (ev_exnK rfl ew_Idle hr rfl rfl (evk_cons (ev_pv rfl rfl rfl rfl) evk_nil) rfl rfl rfl rfl) (evl_cons (ev_exn rfl er_Turned hr rfl rfl (evl_cons (ev_pv rfl rfl rfl rfl) evl_nil rfl) (Nat.le_of_ble_eq_true rfl) rfl rfl) evl_nil rfl) rfl) rfl) rfl) rfl))) (blkOk_by rfl) (fun s H Cc cl fp => (evg_n (i := 2) sc__law_states_right.nd rfl rfl)) (fun s H Cc cl fp => pts_nil) yes_t (fun s H Cc cl fp => (ev_lst (evl_cons (ev_pv rfl rfl rfl rfl) (evl_cons (ev_xfld rfl T.xf_worker (ev_pv rfl rfl rfl rfl) rfl) evl_nil rfl) rfl))) fun _ => rfl)) (evg_n (i := 1) sc__law_states_right.nd rfl rfl) rfl)
  (evss_cons (evs_asg (ev_bin (ops_add rfl) (ev_pv rfl rfl rfl rfl) (ev_comp (own := [("_law_e", 2)]) rfl sc__law_states_right.nd (by decide) (evi_seq rfl (ev_tup (evl_cons (ev_exnK rfl ew_Turned hr rfl rfl (evk_cons (ev_pv rfl rfl rfl rfl) evk_nil) rfl rfl rfl rfl) evl_nil rfl))) (blkOk_by rfl) (fun s H Cc cl fp => (evg_n (i := 2) sc__law_states_right.nd rfl rfl)) (fun s H Cc cl fp => pts_nil) yes_t (fun s H Cc cl fp => (ev_lst (evl_cons (ev_pv rfl rfl rfl rfl) (evl_cons (ev_xfld rfl T.xf_worker (ev_pv rfl rfl rfl rfl) rfl) evl_nil rfl) rfl))) fun _ => rfl)) (evg_n (i := 1) sc__law_states_right.nd rfl rfl) rfl)
  (evss_cons (evs_asg (ev_bin (ops_add rfl) (ev_pv rfl rfl rfl rfl) (ev_comp (own := [("_law_e", 2)]) rfl sc__law_states_right.nd (by decide) (evi_seq rfl (ev_tup (evl_cons (ev_exn rfl er_NothingToUndo hr rfl rfl (evl_cons (ev_pv rfl rfl rfl rfl) evl_nil rfl) (Nat.le_of_ble_eq_true rfl) rfl rfl) (evl_cons (ev_exnK rfl ew_NothingToUndo hr rfl rfl (evk_cons (ev_pv rfl rfl rfl rfl) evk_nil) rfl rfl rfl rfl) evl_nil rfl) rfl))) (blkOk_by rfl) (fun s H Cc cl fp => (evg_n (i := 2) sc__law_states_right.nd rfl rfl)) (fun s H Cc cl fp => pts_nil) yes_t (fun s H Cc cl fp => (ev_lst (evl_cons (ev_pv rfl rfl rfl rfl) (evl_cons (ev_xfld rfl T.xf_count (ev_pv rfl rfl rfl rfl) rfl) evl_nil rfl) rfl))) fun _ => rfl)) (evg_n (i := 1) sc__law_states_right.nd rfl rfl) rfl)
  (evss_cons (evs_for own_cx rfl (evi_seq rfl (ev_pv rfl rfl rfl rfl)) (evg_tup rfl rfl (evgs_cons (evg_n (i := 2) sc__law_states_right.nd rfl rfl) (evgs_cons (evg_n (i := 3) sc__law_states_right.nd rfl rfl) evgs_nil rfl) rfl) rfl rfl) (evss_one (evs_if ((evt_or (evt_cmp (ops_ne rfl hr.room64) (ev_B (fn_reprA rfl hr.quiet hr.room64) T.z_repr rfl bb_repr (evl_cons (ev_pv rfl rfl rfl rfl) evl_nil rfl) rfl rfl rfl) (ev_B (fn_reprA rfl hr.quiet hr.room64) T.z_repr rfl bb_repr (evl_cons (ev_pv rfl rfl rfl rfl) evl_nil rfl) rfl rfl rfl) rfl) (pw_or1 (evt_cmp (ops_ne rfl hr.room64) (ev_user rfl c__law_bases_1 hr rfl rfl (fun _ => passAt0) (evl_cons (ev_pv rfl rfl rfl rfl) evl_nil rfl) rfl rfl) (ev_lst (evl_cons ev_bl (evl_cons ev_bl (evl_cons ev_bl (evl_cons ev_bl (evl_cons ev_bl (evl_cons ev_bl evl_nil rfl) rfl) rfl) rfl) rfl) rfl)) rfl)))).pt (evss_one (evs_ret ev_bl)) evss_nil)) fun _ => rfl)
  (evss_cons (evs_setC (i := 4) (own := [("_law_e", 2), ("_law_kept", 3)]) rfl sc__law_states_right.nd (by decide) rfl rfl (sw_true rfl rfl rfl rfl) (evi_seq rfl (ev_pv rfl rfl rfl rfl)) (blkOk_by rfl) (fun s H Cc cl fp => (evg_tup rfl rfl (evgs_cons (evg_n (i := 2) sc__law_states_right.nd rfl rfl) (evgs_cons (evg_n (i := 3) sc__law_states_right.nd rfl rfl) evgs_nil rfl) rfl) rfl rfl)) (fun s H Cc cl fp => pts_nil) yes_t (fun s H Cc cl fp => (ev_B (fn_sumB rfl rfl) T.z_sum rfl bb_sum (evl_cons (ev_user rfl c__law_kinds_1 hr rfl rfl (fun _ => passAt0) (evl_cons (ev_pv rfl rfl rfl rfl) evl_nil rfl) rfl rfl) evl_nil rfl) rfl rfl rfl)) fun _ => rfl)
  (evss_one (evs_ret (ev_cmp (ops_eq rfl hr.room64) (ev_pv rfl rfl rfl rfl) (ev_bin (ops_mul rfl) (ev_lst (evl_cons ev_int evl_nil rfl)) (ev_B (fn_len rfl) T.z_len rfl bb_len (evl_cons (ev_pv rfl rfl rfl rfl) evl_nil rfl) rfl rfl rfl)) rfl))))))))))))
abbrev st__law_pairs_right : Stmt := top 42
theorem sc__law_pairs_right : FnScope ["_law_one", "_law_other", "_law_states", "_law_failed", "_law_limits", "_law_wrong", "_law_e", "_law_first", "_law_second", "_law_row"] ["_law_one", "_law_other"] (defScope st__law_pairs_right) := ⟨rfl, rfl, rfl, by decide +kernel, rfl, by decide +kernel, by decide +kernel⟩
def m__law_pairs_right : MS := (sSeq (sAsg (mcomp false [6] (iseq (mtup (mcons (mexn 20 ["module", "name"] (mcons (mvar 0) (mcons (mvar 1) mnil))) (mcons (mexnK 20 ["module", "name"] 2 [1, 0] (mcons (mvar 1) (mcons (mvar 0) mnil))) mnil)))) (gname 6) yes (mlst false (mcons (mvar 6) (mcons (mxfld cs_module "module" (mvar 6)) (mcons (mxfld cs_name "name" (mvar 6)) mnil))))) (gname 2))
  (sSeq (sAsg (mop2 false oAdd (mvar 2) (mcomp false [6] (iseq (mtup (mcons (mexn 21 ["module", "name"] (mcons (mvar 0) (mcons (mvar 1) mnil))) (mcons (mexnK 21 ["module", "name"] 2 [1, 0] (mcons (mvar 1) (mcons (mvar 0) mnil))) mnil)))) (gname 6) yes (mlst false (mcons (mvar 6) (mcons (mxfld cs_module "module" (mvar 6)) (mcons (mxfld cs_name "name" (mvar 6)) mnil)))))) (gname 2))
  (sSeq (sAsg (mop2 false oAdd (mvar 2) (mcomp false [6] (iseq (mtup (mcons (mexn 22 ["place", "path"] (mcons (mvar 0) (mcons (mvar 1) mnil))) (mcons (mexnK 22 ["place", "path"] 2 [1, 0] (mcons (mvar 1) (mcons (mvar 0) mnil))) mnil)))) (gname 6) yes (mlst false (mcons (mvar 6) (mcons (mxfld cs_place "place" (mvar 6)) (mcons (mxfld cs_path "path" (mvar 6)) mnil)))))) (gname 2))
  (sSeq (sAsg (mtup (mcons (mexn 30 ["position", "results"] (mcons (mvar 0) (mcons (mvar 1) mnil))) (mcons (mexnK 30 ["position", "results"] 2 [1, 0] (mcons (mvar 1) (mcons (mvar 0) mnil))) mnil))) (gname 3))
  (sSeq (sAsg (mop2 false oAdd (mvar 2) (mcomp false [6] (iseq (mvar 3)) (gname 6) yes (mlst false (mcons (mvar 6) (mcons (mxfld cs_position "position" (mvar 6)) (mcons (mxfld cs_results "results" (mvar 6)) mnil)))))) (gname 2))
  (sSeq (sAsg (mcomp false [6] (iseq (mtup (mcons (mexn 31 ["kind", "limit"] (mcons (mvar 0) (mcons (mvar 1) mnil))) (mcons (mexnK 31 ["kind", "limit"] 2 [1, 0] (mcons (mvar 1) (mcons (mvar 0) mnil))) mnil)))) (gname 6) yes (mlst false (mcons (mvar 6) (mcons (mxfld cs_kind "kind" (mvar 6)) (mcons (mxfld cs_limit "limit" (mvar 6)) mnil))))) (gname 4))
  (sSeq (sAsg (mcomp false [6] (iseq (mtup (mcons (mexn 4 ["problem", "place"] (mcons (mvar 0) (mcons (mvar 1) mnil))) (mcons (mexnK 4 ["problem", "place"] 2 [1, 0] (mcons (mvar 1) (mcons (mvar 0) mnil))) mnil)))) (gname 6) yes (mlst false (mcons (mvar 6) (mcons (mxfld cs_problem "problem" (mvar 6)) (mcons (mxfld cs_place "place" (mvar 6)) mnil))))) (gname 5))
  (sSeq (sFor (iseq (mop2 false oAdd (mop2 false oAdd (mvar 2) (mvar 4)) (mvar 5))) (gtup [(gname 6), (gname 7), (gname 8)]) (sIf (morT (mbl (mop2 false oNe (mfun false fReprA (mcons (mlst false (mcons (mvar 7) (mcons (mvar 8) mnil))) mnil)) (mfun false fReprA (mcons (mlst false (mcons (mvar 0) (mcons (mvar 1) mnil))) mnil)))) (mbl (mop2 false oNe (mfun false fSumB (mcons (mcall F__law_kinds 1 [] (mcons (mvar 6) mnil)) mnil)) (mc (.int 1))))) (sRet (mc (.bl false))) sPass))
  (sSeq (sIf (mnotT (mtru (mfun false fAll (mcons (mcomp false [9] (iseq (mvar 2)) (gname 9) yes (mop2 false oEq (mcall F__law_bases 1 [] (mcons (mop2 false oIx (mvar 9) (mc (.int 0))) mnil)) (mlst false (mcons (mc (.bl false)) (mcons (mc (.bl false)) (mcons (mc (.bl false)) (mcons (mc (.bl true)) (mcons (mc (.bl false)) (mcons (mc (.bl true)) mnil))))))))) mnil)))) (sRet (mc (.bl false))) sPass)
  (sSeq (sIf (mnotT (mtru (mfun false fAll (mcons (mcomp false [9] (iseq (mvar 4)) (gname 9) yes (mop2 false oEq (mcall F__law_bases 1 [] (mcons (mop2 false oIx (mvar 9) (mc (.int 0))) mnil)) (mlst false (mcons (mc (.bl false)) (mcons (mc (.bl false)) (mcons (mc (.bl false)) (mcons (mc (.bl false)) (mcons (mc (.bl true)) (mcons (mc (.bl true)) mnil))))))))) mnil)))) (sRet (mc (.bl false))) sPass)
  (sRet (mfun false fAll (mcons (mcomp false [9] (iseq (mvar 5)) (gname 9) yes (mop2 false oEq (mcall F__law_bases 1 [] (mcons (mop2 false oIx (mvar 9) (mc (.int 0))) mnil)) (mlst false (mcons (mc (.bl true)) (mcons (mc (.bl true)) (mcons (mc (.bl false)) (mcons (mc (.bl false)) (mcons (mc (.bl false)) (mcons (mc (.bl true)) mnil))))))))) mnil)))))))))))))
def F__law_pairs_right : FunT := runB 10 m__law_pairs_right
theorem ok__law_pairs_right {f : Addr} {fd : FuncData} {dvs : List V} {kws : List (Str × V)} (T : TX C mg) (ew_NoMeaning : ErrKw C P w mg base 1 "NoMeaning" 20 ["module", "name"] ["name", "module"] [1, 0]) (er_NoMeaning : ErrOk C P w mg base 1 "NoMeaning" 20 ["module", "name"]) (ew_Protected : ErrKw C P w mg base 1 "Protected" 21 ["module", "name"] ["name", "module"] [1, 0]) (er_Protected : ErrOk C P w mg base 1 "Protected" 21 ["module", "name"]) (ew_Missing : ErrKw C P w mg base 1 "Missing" 22 ["place", "path"] ["path", "place"] [1, 0]) (er_Missing : ErrOk C P w mg base 1 "Missing" 22 ["place", "path"]) (ew_CommandFailed : ErrKw C P w mg base 1 "CommandFailed" 30 ["position", "results"] ["results", "position"] [1, 0]) (er_CommandFailed : ErrOk C P w mg base 1 "CommandFailed" 30 ["position", "results"]) (ew_TooMany : ErrKw C P w mg base 1 "TooMany" 31 ["kind", "limit"] ["limit", "kind"] [1, 0]) (er_TooMany : ErrOk C P w mg base 1 "TooMany" 31 ["kind", "limit"]) (ew_InvalidProgram : ErrKw C P w mg base 1 "InvalidProgram" 4 ["problem", "place"] ["place", "problem"] [1, 0]) (er_InvalidProgram : ErrOk C P w mg base 1 "InvalidProgram" 4 ["problem", "place"]) (c__law_kinds_1 : CallOk C P w mg base CX0 1 "_law_kinds" 1 F__law_kinds []) (c__law_bases_1 : CallOk C P w mg base CX0 1 "_law_bases" 1 F__law_bases []) (FD : FunD C.K "_law_pairs_right" "_law_pairs_right" (defArgs st__law_pairs_right) (defBody st__law_pairs_right) (defScope st__law_pairs_right) dvs kws f fd) : FnG P w C.K mg base CX0 3 f fd ["_law_one", "_law_other"] (spM C 2 F__law_pairs_right) :=
  fn_ok (k := 2) (m := m__law_pairs_right) FD sc__law_pairs_right rfl rfl rfl fun cdv A outer s H E hr =>
  (evss_cons (evs_setC (i := 2) (own := [("_law_e", 6)]) rfl sc__law_pairs_right.nd (by decide) rfl rfl (sw_true rfl rfl rfl rfl) (evi_seq rfl (ev_tup (evl_cons (ev_exn rfl er_NoMeaning hr rfl rfl (evl_cons (ev_pv rfl rfl rfl rfl) (evl_cons (ev_pv rfl rfl rfl rfl) evl_nil rfl) rfl) (Nat.le_of_ble_eq_true rfl) rfl rfl) (evl_cons (ev_exnK rfl ew_NoMeaning hr rfl rfl (evk_cons (ev_pv rfl rfl rfl rfl) (evk_cons (ev_pv rfl rfl rfl rfl) evk_nil)) rfl rfl rfl rfl) evl_nil rfl) rfl))) (blkOk_by rfl) (fun s H Cc cl fp => (evg_n (i := 6) sc__law_pairs_right.nd rfl rfl)) (fun s H Cc cl fp => pts_nil) yes_t (fun s H Cc cl fp => (ev_lst (evl_cons (ev_pv rfl rfl rfl rfl) (evl_cons (ev_xfld rfl T.xf_module (ev_pv rfl rfl rfl rfl) rfl) (evl_cons (ev_xfld rfl T.xf_name (ev_pv rfl rfl rfl rfl) rfl) evl_nil rfl) rfl) rfl))) fun _ => rfl)
  (evss_cons (evs_asg (ev_bin (ops_add rfl) (ev_pv rfl rfl rfl rfl) (ev_comp (own := [("_law_e", 6)]) rfl sc__law_pairs_right.nd (by decide) (evi_seq rfl (ev_tup (evl_cons (ev_exn rfl er_Protected hr rfl rfl (evl_cons (ev_pv rfl rfl rfl rfl) (evl_cons (ev_pv rfl rfl rfl rfl) evl_nil rfl) rfl) (Nat.le_of_ble_eq_true rfl) rfl rfl) (evl_cons (ev_exnK rfl ew_Protected hr rfl rfl (evk_cons (ev_pv rfl rfl rfl rfl) (evk_cons (ev_pv rfl rfl rfl rfl) evk_nil)) rfl rfl rfl rfl) evl_nil rfl) rfl))) (blkOk_by rfl) (fun s H Cc cl fp => (evg_n (i := 6) sc__law_pairs_right.nd rfl rfl)) (fun s H Cc cl fp => pts_nil) yes_t (fun s H Cc cl fp => (ev_lst (evl_cons (ev_pv rfl rfl rfl rfl) (evl_cons (ev_xfld rfl T.xf_module (ev_pv rfl rfl rfl rfl) rfl) (evl_cons (ev_xfld rfl T.xf_name (ev_pv rfl rfl rfl rfl) rfl) evl_nil rfl) rfl) rfl))) fun _ => rfl)) (evg_n (i := 2) sc__law_pairs_right.nd rfl rfl) rfl)
  (evss_cons (evs_asg (ev_bin (ops_add rfl) (ev_pv rfl rfl rfl rfl) (ev_comp (own := [("_law_e", 6)]) rfl sc__law_pairs_right.nd (by decide) (evi_seq rfl (ev_tup (evl_cons (ev_exn rfl er_Missing hr rfl rfl (evl_cons (ev_pv rfl rfl rfl rfl) (evl_cons (ev_pv rfl rfl rfl rfl) evl_nil rfl) rfl) (Nat.le_of_ble_eq_true rfl) rfl rfl) (evl_cons (ev_exnK rfl ew_Missing hr rfl rfl (evk_cons (ev_pv rfl rfl rfl rfl) (evk_cons (ev_pv rfl rfl rfl rfl) evk_nil)) rfl rfl rfl rfl) evl_nil rfl) rfl))) (blkOk_by rfl) (fun s H Cc cl fp => (evg_n (i := 6) sc__law_pairs_right.nd rfl rfl)) (fun s H Cc cl fp => pts_nil) yes_t (fun s H Cc cl fp => (ev_lst (evl_cons (ev_pv rfl rfl rfl rfl) (evl_cons (ev_xfld rfl T.xf_place (ev_pv rfl rfl rfl rfl) rfl) (evl_cons (ev_xfld rfl T.xf_path (ev_pv rfl rfl rfl rfl) rfl) evl_nil rfl) rfl) rfl))) fun _ => rfl)) (evg_n (i := 2) sc__law_pairs_right.nd rfl rfl) rfl)
  (evss_cons (evs_asg (ev_tup (evl_cons (ev_exn rfl er_CommandFailed hr rfl rfl (evl_cons (ev_pv rfl rfl rfl rfl) (evl_cons (ev_pv rfl rfl rfl rfl) evl_nil rfl) rfl) (Nat.le_of_ble_eq_true rfl) rfl rfl) (evl_cons (ev_exnK rfl ew_CommandFailed hr rfl rfl (evk_cons (ev_pv rfl rfl rfl rfl) (evk_cons (ev_pv rfl rfl rfl rfl) evk_nil)) rfl rfl rfl rfl) evl_nil rfl) rfl)) (evg_n (i := 3) sc__law_pairs_right.nd rfl rfl) rfl)
  (evss_cons (evs_asg (ev_bin (ops_add rfl) (ev_pv rfl rfl rfl rfl) (ev_comp (own := [("_law_e", 6)]) rfl sc__law_pairs_right.nd (by decide) (evi_seq rfl (ev_pv rfl rfl rfl rfl)) (blkOk_by rfl) (fun s H Cc cl fp => (evg_n (i := 6) sc__law_pairs_right.nd rfl rfl)) (fun s H Cc cl fp => pts_nil) yes_t (fun s H Cc cl fp => (ev_lst (evl_cons (ev_pv rfl rfl rfl rfl) (evl_cons (ev_xfld rfl T.xf_position (ev_pv rfl rfl rfl rfl) rfl) (evl_cons (ev_xfld rfl T.xf_results (ev_pv rfl rfl rfl rfl) rfl) evl_nil rfl) rfl) rfl))) fun _ => rfl)) (evg_n (i := 2) sc__law_pairs_right.nd rfl rfl) rfl)
  (evss_cons (evs_setC (i := 4) (own := [("_law_e", 6)]) rfl sc__law_pairs_right.nd (by decide) rfl rfl (sw_true rfl rfl rfl rfl) (evi_seq rfl (ev_tup (evl_cons (ev_exn rfl er_TooMany hr rfl rfl (evl_cons (ev_pv rfl rfl rfl rfl) (evl_cons (ev_pv rfl rfl rfl rfl) evl_nil rfl) rfl) (Nat.le_of_ble_eq_true rfl) rfl rfl) (evl_cons (ev_exnK rfl ew_TooMany hr rfl rfl (evk_cons (ev_pv rfl rfl rfl rfl) (evk_cons (ev_pv rfl rfl rfl rfl) evk_nil)) rfl rfl rfl rfl) evl_nil rfl) rfl))) (blkOk_by rfl) (fun s H Cc cl fp => (evg_n (i := 6) sc__law_pairs_right.nd rfl rfl)) (fun s H Cc cl fp => pts_nil) yes_t (fun s H Cc cl fp => (ev_lst (evl_cons (ev_pv rfl rfl rfl rfl) (evl_cons (ev_xfld rfl T.xf_kind (ev_pv rfl rfl rfl rfl) rfl) (evl_cons (ev_xfld rfl T.xf_limit (ev_pv rfl rfl rfl rfl) rfl) evl_nil rfl) rfl) rfl))) fun _ => rfl)
  (evss_cons (evs_setC (i := 5) (own := [("_law_e", 6)]) rfl sc__law_pairs_right.nd (by decide) rfl rfl (sw_true rfl rfl rfl rfl) (evi_seq rfl (ev_tup (evl_cons (ev_exn rfl er_InvalidProgram hr rfl rfl (evl_cons (ev_pv rfl rfl rfl rfl) (evl_cons (ev_pv rfl rfl rfl rfl) evl_nil rfl) rfl) (Nat.le_of_ble_eq_true rfl) rfl rfl) (evl_cons (ev_exnK rfl ew_InvalidProgram hr rfl rfl (evk_cons (ev_pv rfl rfl rfl rfl) (evk_cons (ev_pv rfl rfl rfl rfl) evk_nil)) rfl rfl rfl rfl) evl_nil rfl) rfl))) (blkOk_by rfl) (fun s H Cc cl fp => (evg_n (i := 6) sc__law_pairs_right.nd rfl rfl)) (fun s H Cc cl fp => pts_nil) yes_t (fun s H Cc cl fp => (ev_lst (evl_cons (ev_pv rfl rfl rfl rfl) (evl_cons (ev_xfld rfl T.xf_problem (ev_pv rfl rfl rfl rfl) rfl) (evl_cons (ev_xfld rfl T.xf_place (ev_pv rfl rfl rfl rfl) rfl) evl_nil rfl) rfl) rfl))) fun _ => rfl)
  (evss_cons (evs_for own_cx rfl (evi_seq rfl (ev_bin (ops_add rfl) (ev_bin (ops_add rfl) (ev_pv rfl rfl rfl rfl) (ev_pv rfl rfl rfl rfl)) (ev_pv rfl rfl rfl rfl))) (evg_tup rfl rfl (evgs_cons (evg_n (i := 6) sc__law_pairs_right.nd rfl rfl) (evgs_cons (evg_n (i := 7) sc__law_pairs_right.nd rfl rfl) (evgs_cons (evg_n (i := 8) sc__law_pairs_right.nd rfl rfl) evgs_nil rfl) rfl) rfl) rfl rfl) (evss_one (evs_if ((evt_or (evt_cmp (ops_ne rfl hr.room64) (ev_B (fn_reprA rfl hr.quiet hr.room64) T.z_repr rfl bb_repr (evl_cons (ev_lst (evl_cons (ev_pv rfl rfl rfl rfl) (evl_cons (ev_pv rfl rfl rfl rfl) evl_nil rfl) rfl)) evl_nil rfl) rfl rfl rfl) (ev_B (fn_reprA rfl hr.quiet hr.room64) T.z_repr rfl bb_repr (evl_cons (ev_lst (evl_cons (ev_pv rfl rfl rfl rfl) (evl_cons (ev_pv rfl rfl rfl rfl) evl_nil rfl) rfl)) evl_nil rfl) rfl rfl rfl) rfl) (pw_or1 (evt_cmp (ops_ne rfl hr.room64) (ev_B (fn_sumB rfl rfl) T.z_sum rfl bb_sum (evl_cons (ev_user rfl c__law_kinds_1 hr rfl rfl (fun _ => passAt0) (evl_cons (ev_pv rfl rfl rfl rfl) evl_nil rfl) rfl rfl) evl_nil rfl) rfl rfl rfl) ev_int rfl)))).pt (evss_one (evs_ret ev_bl)) evss_nil)) fun _ => rfl)
  (evss_cons (evs_if (evt_not (evt_tru rfl (ev_B (fn_all rfl rfl) T.z_all rfl bb_all (evl_cons (ev_comp (own := [("_law_row", 9)]) rfl sc__law_pairs_right.nd (by decide) (evi_seq rfl (ev_pv rfl rfl rfl rfl)) (blkOk_by rfl) (fun s H Cc cl fp => (evg_n (i := 9) sc__law_pairs_right.nd rfl rfl)) (fun s H Cc cl fp => pts_nil) yes_t (fun s H Cc cl fp => (ev_cmp (ops_eq rfl hr.room64) (ev_user rfl c__law_bases_1 hr rfl rfl (fun _ => passAt0) (evl_cons (ev_ix (ix_ok rfl) (ev_pv rfl rfl rfl rfl) ev_int fun _ _ => rfl) evl_nil rfl) rfl rfl) (ev_lst (evl_cons ev_bl (evl_cons ev_bl (evl_cons ev_bl (evl_cons ev_bl (evl_cons ev_bl (evl_cons ev_bl evl_nil rfl) rfl) rfl) rfl) rfl) rfl)) rfl)) fun _ => rfl) evl_nil rfl) rfl rfl rfl) rfl)) (evss_one (evs_ret ev_bl)) evss_nil)
  (evss_cons (evs_if (evt_not (evt_tru rfl (ev_B (fn_all rfl rfl) T.z_all rfl bb_all (evl_cons (ev_comp (own := [("_law_row", 9)]) rfl sc__law_pairs_right.nd (by decide) (evi_seq rfl (ev_pv rfl rfl rfl rfl)) (blkOk_by rfl) (fun s H Cc cl fp => (evg_n (i := 9) sc__law_pairs_right.nd rfl rfl)) (fun s H Cc cl fp => pts_nil) yes_t (fun s H Cc cl fp => (ev_cmp (ops_eq rfl hr.room64) (ev_user rfl c__law_bases_1 hr rfl rfl (fun _ => passAt0) (evl_cons (ev_ix (ix_ok rfl) (ev_pv rfl rfl rfl rfl) ev_int fun _ _ => rfl) evl_nil rfl) rfl rfl) (ev_lst (evl_cons ev_bl (evl_cons ev_bl (evl_cons ev_bl (evl_cons ev_bl (evl_cons ev_bl (evl_cons ev_bl evl_nil rfl) rfl) rfl) rfl) rfl) rfl)) rfl)) fun _ => rfl) evl_nil rfl) rfl rfl rfl) rfl)) (evss_one (evs_ret ev_bl)) evss_nil)
  (evss_one (evs_ret (ev_B (fn_all rfl rfl) T.z_all rfl bb_all (evl_cons (ev_comp (own := [("_law_row", 9)]) rfl sc__law_pairs_right.nd (by decide) (evi_seq rfl (ev_pv rfl rfl rfl rfl)) (blkOk_by rfl) (fun s H Cc cl fp => (evg_n (i := 9) sc__law_pairs_right.nd rfl rfl)) (fun s H Cc cl fp => pts_nil) yes_t (fun s H Cc cl fp => (ev_cmp (ops_eq rfl hr.room64) (ev_user rfl c__law_bases_1 hr rfl rfl (fun _ => passAt0) (evl_cons (ev_ix (ix_ok rfl) (ev_pv rfl rfl rfl rfl) ev_int fun _ _ => rfl) evl_nil rfl) rfl rfl) (ev_lst (evl_cons ev_bl (evl_cons ev_bl (evl_cons ev_bl (evl_cons ev_bl (evl_cons ev_bl (evl_cons ev_bl evl_nil rfl) rfl) rfl) rfl) rfl) rfl)) rfl)) fun _ => rfl) evl_nil rfl) rfl rfl rfl)))))))))))))
abbrev st__law_numbers_right : Stmt := top 43
theorem sc__law_numbers_right : FnScope ["_law_one", "_law_told", "_law_e", "_law_kept"] ["_law_one"] (defScope st__law_numbers_right) := ⟨rfl, rfl, rfl, by decide +kernel, rfl, by decide +kernel, by decide +kernel⟩
def m__law_numbers_right : MS := (sSeq (sAsg (mcomp false [2] (iseq (mtup (mcons (mexn 5 ["position"] (mcons (mvar 0) mnil)) (mcons (mexnK 5 ["position"] 1 [0] (mcons (mvar 0) mnil)) mnil)))) (gname 2) yes (mlst false (mcons (mvar 2) (mcons (mxfld cs_position "position" (mvar 2)) mnil)))) (gname 1))
  (sSeq (sAsg (mop2 false oAdd (mvar 1) (mcomp false [2] (iseq (mtup (mcons (mexn 11 ["line"] (mcons (mvar 0) mnil)) (mcons (mexnK 11 ["line"] 1 [0] (mcons (mvar 0) mnil)) mnil)))) (gname 2) yes (mlst false (mcons (mvar 2) (mcons (mxfld cs_line "line" (mvar 2)) mnil))))) (gname 1))
  (sSeq (sFor (iseq (mvar 1)) (gtup [(gname 2), (gname 3)]) (sSeq (sIf (morT (mbl (mop2 false oNe (mfun false fReprA (mcons (mvar 3) mnil)) (mfun false fReprA (mcons (mvar 0) mnil)))) (mbl (mop2 false oNe (mcall F__law_bases 1 [] (mcons (mvar 2) mnil)) (mlst false (mcons (mc (.bl true)) (mcons (mc (.bl true)) (mcons (mc (.bl false)) (mcons (mc (.bl false)) (mcons (mc (.bl false)) (mcons (mc (.bl true)) mnil)))))))))) (sRet (mc (.bl false))) sPass)
  (sIf (mbl (mop2 false oNe (mfun false fSumB (mcons (mcall F__law_kinds 1 [] (mcons (mvar 2) mnil)) mnil)) (mc (.int 1)))) (sRet (mc (.bl false))) sPass)))
  (sRet (mc (.bl true))))))
def F__law_numbers_right : FunT := runB 4 m__law_numbers_right
theorem ok__law_numbers_right {f : Addr} {fd : FuncData} {dvs : List V} {kws : List (Str × V)} (T : TX C mg) (ew_InvalidOrder : ErrKw C P w mg base 1 "InvalidOrder" 5 ["position"] ["position"] [0]) (er_InvalidOrder : ErrOk C P w mg base 1 "InvalidOrder" 5 ["position"]) (ew_InvalidText : ErrKw C P w mg base 1 "InvalidText" 11 ["line"] ["line"] [0]) (er_InvalidText : ErrOk C P w mg base 1 "InvalidText" 11 ["line"]) (c__law_bases_1 : CallOk C P w mg base CX0 1 "_law_bases" 1 F__law_bases []) (c__law_kinds_1 : CallOk C P w mg base CX0 1 "_law_kinds" 1 F__law_kinds []) (FD : FunD C.K "_law_numbers_right" "_law_numbers_right" (defArgs st__law_numbers_right) (defBody st__law_numbers_right) (defScope st__law_numbers_right) dvs kws f fd) : FnG P w C.K mg base CX0 3 f fd ["_law_one"] (spM C 1 F__law_numbers_right) :=
  fn_ok (k := 2) (m := m__law_numbers_right) FD sc__law_numbers_right rfl rfl rfl fun cdv A outer s H E hr =>
  (evss_cons (evs_setC (i := 1) (own := [("_law_e", 2)]) rfl sc__law_numbers_right.nd (by decide) rfl rfl (sw_true rfl rfl rfl rfl) (evi_seq rfl (ev_tup (evl_cons (ev_exn rfl er_InvalidOrder hr rfl rfl (evl_cons (ev_pv rfl rfl rfl rfl) evl_nil rfl) (Nat.le_of_ble_eq_true rfl) rfl rfl) (evl_cons (ev_exnK rfl ew_InvalidOrder hr rfl rfl (evk_cons (ev_pv rfl rfl rfl rfl) evk_nil) rfl rfl rfl rfl) evl_nil rfl) rfl))) (blkOk_by rfl) (fun s H Cc cl fp => (evg_n (i := 2) sc__law_numbers_right.nd rfl rfl)) (fun s H Cc cl fp => pts_nil) yes_t (fun s H Cc cl fp => (ev_lst (evl_cons (ev_pv rfl rfl rfl rfl) (evl_cons (ev_xfld rfl T.xf_position (ev_pv rfl rfl rfl rfl) rfl) evl_nil rfl) rfl))) fun _ => rfl)
  (evss_cons (evs_asg (ev_bin (ops_add rfl) (ev_pv rfl rfl rfl rfl) (ev_comp (own := [("_law_e", 2)]) rfl sc__law_numbers_right.nd (by decide) (evi_seq rfl (ev_tup (evl_cons (ev_exn rfl er_InvalidText hr rfl rfl (evl_cons (ev_pv rfl rfl rfl rfl) evl_nil rfl) (Nat.le_of_ble_eq_true rfl) rfl rfl) (evl_cons (ev_exnK rfl ew_InvalidText hr rfl rfl (evk_cons (ev_pv rfl rfl rfl rfl) evk_nil) rfl rfl rfl rfl) evl_nil rfl) rfl))) (blkOk_by rfl) (fun s H Cc cl fp => (evg_n (i := 2) sc__law_numbers_right.nd rfl rfl)) (fun s H Cc cl fp => pts_nil) yes_t (fun s H Cc cl fp => (ev_lst (evl_cons (ev_pv rfl rfl rfl rfl) (evl_cons (ev_xfld rfl T.xf_line (ev_pv rfl rfl rfl rfl) rfl) evl_nil rfl) rfl))) fun _ => rfl)) (evg_n (i := 1) sc__law_numbers_right.nd rfl rfl) rfl)
  (evss_cons (evs_for own_cx rfl (evi_seq rfl (ev_pv rfl rfl rfl rfl)) (evg_tup rfl rfl (evgs_cons (evg_n (i := 2) sc__law_numbers_right.nd rfl rfl) (evgs_cons (evg_n (i := 3) sc__law_numbers_right.nd rfl rfl) evgs_nil rfl) rfl) rfl rfl) (evss_cons (evs_if ((evt_or (evt_cmp (ops_ne rfl hr.room64) (ev_B (fn_reprA rfl hr.quiet hr.room64) T.z_repr rfl bb_repr (evl_cons (ev_pv rfl rfl rfl rfl) evl_nil rfl) rfl rfl rfl) (ev_B (fn_reprA rfl hr.quiet hr.room64) T.z_repr rfl bb_repr (evl_cons (ev_pv rfl rfl rfl rfl) evl_nil rfl) rfl rfl rfl) rfl) (pw_or1 (evt_cmp (ops_ne rfl hr.room64) (ev_user rfl c__law_bases_1 hr rfl rfl (fun _ => passAt0) (evl_cons (ev_pv rfl rfl rfl rfl) evl_nil rfl) rfl rfl) (ev_lst (evl_cons ev_bl (evl_cons ev_bl (evl_cons ev_bl (evl_cons ev_bl (evl_cons ev_bl (evl_cons ev_bl evl_nil rfl) rfl) rfl) rfl) rfl) rfl)) rfl)))).pt (evss_one (evs_ret ev_bl)) evss_nil)
  (evss_one (evs_if (evt_cmp (ops_ne rfl hr.room64) (ev_B (fn_sumB rfl rfl) T.z_sum rfl bb_sum (evl_cons (ev_user rfl c__law_kinds_1 hr rfl rfl (fun _ => passAt0) (evl_cons (ev_pv rfl rfl rfl rfl) evl_nil rfl) rfl rfl) evl_nil rfl) rfl rfl rfl) ev_int rfl) (evss_one (evs_ret ev_bl)) evss_nil))) fun _ => rfl)
  (evss_one (evs_ret ev_bl)))))
abbrev st_law : Stmt := top 44
theorem sc_law : FnScope ["_law_script", "_law_base", "_law_k", "_law_rng_here", "_law_turn", "_law_one", "_law_other"] ["_law_script"] (defScope st_law) := ⟨rfl, rfl, rfl, by decide +kernel, rfl, by decide +kernel, by decide +kernel⟩
def m_law : MS := (sSeq (sAsg (mexn0 0 (mc (.str "message"))) (gname 1))
  (sSeq (sIf (morT (mbl (mop2 false oNe (mcall F__law_bases 1 [] (mcons (mvar 1) mnil)) (mlst false (mcons (mc (.bl true)) (mcons (mc (.bl true)) (mcons (mc (.bl false)) (mcons (mc (.bl false)) (mcons (mc (.bl false)) (mcons (mc (.bl true)) mnil))))))))) (mbl (mop2 false oNe (mfun false fSumB (mcons (mcall F__law_kinds 1 [] (mcons (mvar 1) mnil)) mnil)) (mc (.int 0))))) (sRet (mc (.bl false))) sPass)
  (sSeq (sFor (irng irange1 (mcons (mfun false fMax (mcons (mc (.int 1)) (mcons (mfun false fMin (mcons (mc (.int 3)) (mcons (mfun false fLen (mcons (mvar 0) mnil)) mnil))) mnil))) mnil)) (gname 2) (sSeq (sAsg (mcall F__law_rng 2 [] (mcons (mvar 0) (mcons (mvar 2) mnil))) (gname 3))
  (sFor (irng irange1 (mcons (mc (.int 4)) mnil)) (gname 4) (sSeq (sPar2 5 6 (mcons (mcall F__law_value 1 [] (mcons (mvar 3) mnil)) (mcons (mcall F__law_value 1 [] (mcons (mvar 3) mnil)) mnil)))
  (sSeq (sIf (morT (mnotT (mtru (mcall F__law_ones_right 1 [] (mcons (mvar 5) mnil)))) (morT (mnotT (mtru (mcall F__law_states_right 1 [] (mcons (mvar 5) mnil)))) (mnotT (mtru (mcall F__law_pairs_right 2 [] (mcons (mvar 5) (mcons (mvar 6) mnil))))))) (sRet (mc (.bl false))) sPass)
  (sIf (mnotT (mtru (mcall F__law_numbers_right 1 [] (mcons (mvar 5) mnil)))) (sRet (mc (.bl false))) sPass))))))
  (sRet (mc (.bl true))))))
def F_law : FunT := runB 7 m_law
theorem ok_law {f : Addr} {fd : FuncData} {dvs : List V} {kws : List (Str × V)} (T : TX C mg) (c__law_bases_1 : CallOk C P w mg base CX0 1 "_law_bases" 1 F__law_bases []) (c__law_kinds_1 : CallOk C P w mg base CX0 1 "_law_kinds" 1 F__law_kinds []) (c__law_rng_2 : CallOk C P w mg base CX0 1 "_law_rng" 2 F__law_rng []) (c__law_value_1 : CallOk C P w mg base CX0 3 "_law_value" 1 F__law_value []) (c__law_ones_right_1 : CallOk C P w mg base CX0 3 "_law_ones_right" 1 F__law_ones_right []) (c__law_states_right_1 : CallOk C P w mg base CX0 3 "_law_states_right" 1 F__law_states_right []) (c__law_pairs_right_2 : CallOk C P w mg base CX0 3 "_law_pairs_right" 2 F__law_pairs_right []) (c__law_numbers_right_1 : CallOk C P w mg base CX0 3 "_law_numbers_right" 1 F__law_numbers_right []) (FD : FunD C.K "law" "law" (defArgs st_law) (defBody st_law) (defScope st_law) dvs kws f fd) : FnG P w C.K mg base CX0 4 f fd ["_law_script"] (spM C 1 F_law) :=
  fn_ok (k := 3) (m := m_law) FD sc_law rfl rfl rfl fun cdv A outer s H E hr =>
  (evss_cons (evs_asg (ev_exn0 .val rfl T.eq_MeantError T.em_MeantError T.ek_MeantError rfl (ev_str rfl) rfl rfl) (evg_n (i := 1) sc_law.nd rfl rfl) rfl)
  (evss_cons (evs_if ((evt_or (evt_cmp (ops_ne rfl hr.room64) (ev_user rfl c__law_bases_1 hr rfl rfl (fun _ => passAt0) (evl_cons (ev_pv rfl rfl rfl rfl) evl_nil rfl) rfl rfl) (ev_lst (evl_cons ev_bl (evl_cons ev_bl (evl_cons ev_bl (evl_cons ev_bl (evl_cons ev_bl (evl_cons ev_bl evl_nil rfl) rfl) rfl) rfl) rfl) rfl)) rfl) (pw_or1 (evt_cmp (ops_ne rfl hr.room64) (ev_B (fn_sumB rfl rfl) T.z_sum rfl bb_sum (evl_cons (ev_user rfl c__law_kinds_1 hr rfl rfl (fun _ => passAt0) (evl_cons (ev_pv rfl rfl rfl rfl) evl_nil rfl) rfl rfl) evl_nil rfl) rfl rfl rfl) ev_int rfl)))).pt (evss_one (evs_ret ev_bl)) evss_nil)
  (evss_cons (evs_for own_cx rfl (ev_rng1 T.z_range rfl (ev_B (fn_max rfl) T.z_max rfl bb_max (evl_cons ev_int (evl_cons (ev_B (fn_min rfl) T.z_min rfl bb_min (evl_cons ev_int (evl_cons (ev_B (fn_len rfl) T.z_len rfl bb_len (evl_cons (ev_pv rfl rfl rfl rfl) evl_nil rfl) rfl rfl rfl) evl_nil rfl) rfl) rfl rfl rfl) evl_nil rfl) rfl) rfl rfl rfl) rfl) (evg_n (i := 2) sc_law.nd rfl rfl) (evss_cons (evs_asg (ev_user rfl c__law_rng_2 hr rfl rfl (fun _ => passAt0) (evl_cons (ev_pv rfl rfl rfl rfl) (evl_cons (ev_pv rfl rfl rfl rfl) evl_nil rfl) rfl) rfl rfl) (evg_n (i := 3) sc_law.nd rfl rfl) rfl)
  (evss_one (evs_for own_cx rfl (ev_rng1 T.z_range rfl ev_int rfl) (evg_n (i := 4) sc_law.nd rfl rfl) (evss_cons (evs_par2 (i := 5) (j := 6) rfl sc_law.nd rfl rfl (by decide) rfl rfl (evl_cons (ev_user rfl c__law_value_1 hr rfl rfl (fun _ => passAt0) (evl_cons (ev_pv rfl rfl rfl rfl) evl_nil rfl) rfl rfl) (evl_cons (ev_user rfl c__law_value_1 hr rfl rfl (fun _ => passAt0) (evl_cons (ev_pv rfl rfl rfl rfl) evl_nil rfl) rfl rfl) evl_nil rfl) rfl) rfl rfl)
  (evss_cons (evs_if ((evt_or (evt_not (evt_tru rfl (ev_user rfl c__law_ones_right_1 hr rfl rfl (fun _ => passAt0) (evl_cons (ev_pv rfl rfl rfl rfl) evl_nil rfl) rfl rfl) rfl)) (evt_or (evt_not (evt_tru rfl (ev_user rfl c__law_states_right_1 hr rfl rfl (fun _ => passAt0) (evl_cons (ev_pv rfl rfl rfl rfl) evl_nil rfl) rfl rfl) rfl)) (pw_or1 (evt_not (evt_tru rfl (ev_user rfl c__law_pairs_right_2 hr rfl rfl (fun _ => passAt0) (evl_cons (ev_pv rfl rfl rfl rfl) (evl_cons (ev_pv rfl rfl rfl rfl) evl_nil rfl) rfl) rfl rfl) rfl)))))).pt (evss_one (evs_ret ev_bl)) evss_nil)
  (evss_one (evs_if (evt_not (evt_tru rfl (ev_user rfl c__law_numbers_right_1 hr rfl rfl (fun _ => passAt0) (evl_cons (ev_pv rfl rfl rfl rfl) evl_nil rfl) rfl rfl) rfl)) (evss_one (evs_ret ev_bl)) evss_nil)))) fun _ => rfl))) fun _ => rfl)
  (evss_one (evs_ret ev_bl)))))
end
end EV
namespace EV
open PySem PySem.Spec PyProof.Rows L2 RP
def vals : List D := [.non, .bl true, .int 0, .int 7, .str "", .str "text", .tup [], .tup [.int 1, .int 2], .lst [], .lst [.str "a"], .dic [] [], .dic [.inr "a"] [.int 1], .tup [.str "quarrel", .lst []], .int (10 ^ 29), .int (-1), .tup [.int 0]]
theorem all_ok {α : Type} {f : α → Res D} {xs : List α} {h : Hd} (e : xs.map f = List.replicate xs.length (.ok (.bl true) h)) (x : α) (hx : x ∈ xs) : f x = .ok (.bl true) h :=
  List.eq_of_mem_replicate (e ▸ List.mem_map_of_mem hx)
theorem ones_all (h : Hd) : (vals.map fun d => F__law_ones_right [d] h) = List.replicate vals.length (.ok (.bl true) h) := by kernel_rfl
theorem states_all (h : Hd) : (vals.map fun d => F__law_states_right [d] h) = List.replicate vals.length (.ok (.bl true) h) := by kernel_rfl
theorem numbers_all (h : Hd) : (vals.map fun d => F__law_numbers_right [d] h) = List.replicate vals.length (.ok (.bl true) h) := by kernel_rfl
theorem pairs_0 (h : Hd) : (vals.map fun e => F__law_pairs_right [.non, e] h) = List.replicate vals.length (.ok (.bl true) h) := by kernel_rfl
theorem pairs_1 (h : Hd) : (vals.map fun e => F__law_pairs_right [.bl true, e] h) = List.replicate vals.length (.ok (.bl true) h) := by kernel_rfl
theorem pairs_2 (h : Hd) : (vals.map fun e => F__law_pairs_right [.int 0, e] h) = List.replicate vals.length (.ok (.bl true) h) := by kernel_rfl
theorem pairs_3 (h : Hd) : (vals.map fun e => F__law_pairs_right [.int 7, e] h) = List.replicate vals.length (.ok (.bl true) h) := by kernel_rfl
theorem pairs_4 (h : Hd) : (vals.map fun e => F__law_pairs_right [.str "", e] h) = List.replicate vals.length (.ok (.bl true) h) := by kernel_rfl
theorem pairs_5 (h : Hd) : (vals.map fun e => F__law_pairs_right [.str "text", e] h) = List.replicate vals.length (.ok (.bl true) h) := by kernel_rfl
theorem pairs_6 (h : Hd) : (vals.map fun e => F__law_pairs_right [.tup [], e] h) = List.replicate vals.length (.ok (.bl true) h) := by kernel_rfl
theorem pairs_7 (h : Hd) : (vals.map fun e => F__law_pairs_right [.tup [.int 1, .int 2], e] h) = List.replicate vals.length (.ok (.bl true) h) := by kernel_rfl
theorem pairs_8 (h : Hd) : (vals.map fun e => F__law_pairs_right [.lst [], e] h) = List.replicate vals.length (.ok (.bl true) h) := by kernel_rfl
theorem pairs_9 (h : Hd) : (vals.map fun e => F__law_pairs_right [.lst [.str "a"], e] h) = List.replicate vals.length (.ok (.bl true) h) := by kernel_rfl
theorem pairs_10 (h : Hd) : (vals.map fun e => F__law_pairs_right [.dic [] [], e] h) = List.replicate vals.length (.ok (.bl true) h) := by kernel_rfl
theorem pairs_11 (h : Hd) : (vals.map fun e => F__law_pairs_right [.dic [.inr "a"] [.int 1], e] h) = List.replicate vals.length (.ok (.bl true) h) := by kernel_rfl
theorem pairs_12 (h : Hd) : (vals.map fun e => F__law_pairs_right [.tup [.str "quarrel", .lst []], e] h) = List.replicate vals.length (.ok (.bl true) h) := by kernel_rfl
theorem pairs_13 (h : Hd) : (vals.map fun e => F__law_pairs_right [.int (10 ^ 29), e] h) = List.replicate vals.length (.ok (.bl true) h) := by kernel_rfl
theorem pairs_14 (h : Hd) : (vals.map fun e => F__law_pairs_right [.int (-1), e] h) = List.replicate vals.length (.ok (.bl true) h) := by kernel_rfl
theorem pairs_15 (h : Hd) : (vals.map fun e => F__law_pairs_right [.tup [.int 0], e] h) = List.replicate vals.length (.ok (.bl true) h) := by kernel_rfl
theorem ones_ok {d : D} (hd : d ∈ vals) (h : Hd) : F__law_ones_right [d] h = .ok (.bl true) h := all_ok (ones_all h) d hd
theorem states_ok {d : D} (hd : d ∈ vals) (h : Hd) : F__law_states_right [d] h = .ok (.bl true) h := all_ok (states_all h) d hd
theorem numbers_ok {d : D} (hd : d ∈ vals) (h : Hd) : F__law_numbers_right [d] h = .ok (.bl true) h := all_ok (numbers_all h) d hd
theorem pairs_ok {d e : D} (hd : d ∈ vals) (he : e ∈ vals) (h : Hd) : F__law_pairs_right [d, e] h = .ok (.bl true) h := by
  simp only [vals, List.mem_cons, List.not_mem_nil, or_false] at hd
  rcases hd with rfl | rfl | rfl | rfl | rfl | rfl | rfl | rfl | rfl | rfl | rfl | rfl | rfl | rfl | rfl | rfl
  · exact all_ok (f := fun e => F__law_pairs_right [.non, e] h) (pairs_0 h) e he
  · exact all_ok (f := fun e => F__law_pairs_right [.bl true, e] h) (pairs_1 h) e he
  · exact all_ok (f := fun e => F__law_pairs_right [.int 0, e] h) (pairs_2 h) e he
  · exact all_ok (f := fun e => F__law_pairs_right [.int 7, e] h) (pairs_3 h) e he
  · exact all_ok (f := fun e => F__law_pairs_right [.str "", e] h) (pairs_4 h) e he
  · exact all_ok (f := fun e => F__law_pairs_right [.str "text", e] h) (pairs_5 h) e he
  · exact all_ok (f := fun e => F__law_pairs_right [.tup [], e] h) (pairs_6 h) e he
  · exact all_ok (f := fun e => F__law_pairs_right [.tup [.int 1, .int 2], e] h) (pairs_7 h) e he
  · exact all_ok (f := fun e => F__law_pairs_right [.lst [], e] h) (pairs_8 h) e he
  · exact all_ok (f := fun e => F__law_pairs_right [.lst [.str "a"], e] h) (pairs_9 h) e he
  · exact all_ok (f := fun e => F__law_pairs_right [.dic [] [], e] h) (pairs_10 h) e he
  · exact all_ok (f := fun e => F__law_pairs_right [.dic [.inr "a"] [.int 1], e] h) (pairs_11 h) e he
  · exact all_ok (f := fun e => F__law_pairs_right [.tup [.str "quarrel", .lst []], e] h) (pairs_12 h) e he
  · exact all_ok (f := fun e => F__law_pairs_right [.int (10 ^ 29), e] h) (pairs_13 h) e he
  · exact all_ok (f := fun e => F__law_pairs_right [.int (-1), e] h) (pairs_14 h) e he
  · exact all_ok (f := fun e => F__law_pairs_right [.tup [.int 0], e] h) (pairs_15 h) e he
end EV
local macro_rules
  | `(tactic| simp_arith only [EVS, $as,*]) => `(tactic| simp only [EV.mc_at, EV.mvar_at, EV.mnil_at, EV.mcons_at, EV.mop1_at, EV.mop2_at, EV.mtup_at, EV.mlst_at, EV.mfun_at, EV.mand_at, EV.mor_at, EV.mnot_at, EV.mandT_at, EV.morT_at, EV.mnotT_at, EV.mtru_at, EV.mbl_at, EV.mite_at, EV.mchain_at, EV.mcall_at, EV.mcallN_at, EV.mmeth_at, EV.msl_at, EV.mpart0, EV.mpart1, EV.mdic0_at, EV.iseq_at, EV.irng_at, EV.mcomp_at, EV.fin_none, EV.fin_v, EV.fin_newF, EV.fin_newT, EV.resM_some, EV.resM_none, EV.isLst_ref, EV.lstOf_ref, EV.lstOf_lst, EV.seqOf_tup, EV.seqOf_lst, EV.seqOf_ref, EV.seqOf_scr, EV.truth_bl, EV.ofE_at, EV.ofT_at, EV.sPass_at, EV.sExpr_at, EV.sRet_at, EV.sRetN_at, EV.sAsg_at, EV.sIf_at, EV.sSeq_at, EV.sFor_at, EV.forLoop_nil, EV.forLoop_cons, EV.gname_at, EV.gtup_at, EV.gtup_lst, EV.go_nil, EV.go_cons, EV.gstar_at, EV.gsub_at, EV.runB_at, EV.startE_at, EV.wipeE_nil, EV.wipeE_cons, EV.isi_at, EV.len_at, EV.all_lst, EV.tuple_lst, EV.tuple_tup, EV.tuple_scr, EV.tuple_ref, EV.list_at, EV.isN_eq, EV.isN_ne, EV.isN_in, EV.isN_notIn, EV.cmp_int, EV.add_int, EV.sub_int, EV.mod_int, EV.fdiv_int, EV.mul_int, EV.mul_lst, EV.add_lst, EV.add_refL, EV.app_at, EV.join_at, EV.isStr_str, EV.add_tup, EV.add_str, EV.int_bl, EV.int_int, EV.sl_tup, EV.sl_lst, EV.sl_str, EV.pow_int, EV.neg_int, EV.ix_tup, EV.ix_lst, EV.ix_ref, EV.ix_scr, EV.Res.bind_ok, EV.Res.bind_bad, EV.Res.bind_exc, List.getElem?_cons_zero, List.getElem?_cons_succ, List.getElem?_nil, List.map_cons, List.map_nil, List.cons_append, List.nil_append, List.append_nil, List.length_cons, List.length_nil, List.set_cons_zero, List.set_cons_succ, Option.map_some, Option.map_none, Option.isSome_some, List.replicate_succ, List.replicate_zero, if_true, if_false, reduceIte, Nat.reduceAdd, Nat.reduceSub, Nat.reduceLeDiff, Nat.reduceEqDiff, Nat.reduceLT, Bool.false_eq_true, and_self, and_true, true_and, List.drop_succ_cons, List.drop_zero, List.take_succ_cons, List.take_zero, Nat.zero_add, Nat.add_zero, Bool.not_true, Bool.not_false, Nat.sub_self, Nat.le_refl, Int.reduceLT, Int.reduceNeg, Nat.reducePow, Int.reducePow, Int.reduceToNat, Int.reduceAdd, Int.reduceSub, Int.reduceLE, Int.cast_ofNat_Int, Int.reduceBEq, List.flatten_cons, List.flatten_nil, Nat.reduceMul, Nat.one_mul, Nat.mul_one, Nat.mul_zero, Nat.zero_le, Int.reduceMul, $as,*])
  | `(tactic| simp_arith only [EVS, $as,*] at $h:ident) => `(tactic| simp only [EV.mc_at, EV.mvar_at, EV.mnil_at, EV.mcons_at, EV.mop1_at, EV.mop2_at, EV.mtup_at, EV.mlst_at, EV.mfun_at, EV.mand_at, EV.mor_at, EV.mnot_at, EV.mandT_at, EV.morT_at, EV.mnotT_at, EV.mtru_at, EV.mbl_at, EV.mite_at, EV.mchain_at, EV.mcall_at, EV.mcallN_at, EV.mmeth_at, EV.msl_at, EV.mpart0, EV.mpart1, EV.mdic0_at, EV.iseq_at, EV.irng_at, EV.mcomp_at, EV.fin_none, EV.fin_v, EV.fin_newF, EV.fin_newT, EV.resM_some, EV.resM_none, EV.isLst_ref, EV.lstOf_ref, EV.lstOf_lst, EV.seqOf_tup, EV.seqOf_lst, EV.seqOf_ref, EV.seqOf_scr, EV.truth_bl, EV.ofE_at, EV.ofT_at, EV.sPass_at, EV.sExpr_at, EV.sRet_at, EV.sRetN_at, EV.sAsg_at, EV.sIf_at, EV.sSeq_at, EV.sFor_at, EV.forLoop_nil, EV.forLoop_cons, EV.gname_at, EV.gtup_at, EV.gtup_lst, EV.go_nil, EV.go_cons, EV.gstar_at, EV.gsub_at, EV.runB_at, EV.startE_at, EV.wipeE_nil, EV.wipeE_cons, EV.isi_at, EV.len_at, EV.all_lst, EV.tuple_lst, EV.tuple_tup, EV.tuple_scr, EV.tuple_ref, EV.list_at, EV.isN_eq, EV.isN_ne, EV.isN_in, EV.isN_notIn, EV.cmp_int, EV.add_int, EV.sub_int, EV.mod_int, EV.fdiv_int, EV.mul_int, EV.mul_lst, EV.add_lst, EV.add_refL, EV.app_at, EV.join_at, EV.isStr_str, EV.add_tup, EV.add_str, EV.int_bl, EV.int_int, EV.sl_tup, EV.sl_lst, EV.sl_str, EV.pow_int, EV.neg_int, EV.ix_tup, EV.ix_lst, EV.ix_ref, EV.ix_scr, EV.Res.bind_ok, EV.Res.bind_bad, EV.Res.bind_exc, List.getElem?_cons_zero, List.getElem?_cons_succ, List.getElem?_nil, List.map_cons, List.map_nil, List.cons_append, List.nil_append, List.append_nil, List.length_cons, List.length_nil, List.set_cons_zero, List.set_cons_succ, Option.map_some, Option.map_none, Option.isSome_some, List.replicate_succ, List.replicate_zero, if_true, if_false, reduceIte, Nat.reduceAdd, Nat.reduceSub, Nat.reduceLeDiff, Nat.reduceEqDiff, Nat.reduceLT, Bool.false_eq_true, and_self, and_true, true_and, List.drop_succ_cons, List.drop_zero, List.take_succ_cons, List.take_zero, Nat.zero_add, Nat.add_zero, Bool.not_true, Bool.not_false, Nat.sub_self, Nat.le_refl, Int.reduceLT, Int.reduceNeg, Nat.reducePow, Int.reducePow, Int.reduceToNat, Int.reduceAdd, Int.reduceSub, Int.reduceLE, Int.cast_ofNat_Int, Int.reduceBEq, List.flatten_cons, List.flatten_nil, Nat.reduceMul, Nat.one_mul, Nat.mul_one, Nat.mul_zero, Nat.zero_le, Int.reduceMul, $as,*] at $h:ident)
local macro_rules
  | `(tactic| simp_arith only [EVT, $as,*]) => `(tactic| simp only [EV.mc_at, EV.mvar_at, EV.mnil_at, EV.mcons_at, EV.mop1_at, EV.mop2_at, EV.mtup_at, EV.mlst_at, EV.mfun_at, EV.mand_at, EV.mor_at, EV.mnot_at, EV.mandT_at, EV.morT_at, EV.mnotT_at, EV.mtru_at, EV.mbl_at, EV.mite_at, EV.mchain_at, EV.mcall_at, EV.mcallN_at, EV.mmeth_at, EV.msl_at, EV.mpart0, EV.mpart1, EV.mdic0_at, EV.iseq_at, EV.irng_at, EV.fin_none, EV.fin_v, EV.fin_newF, EV.fin_newT, EV.resM_some, EV.resM_none, EV.isLst_ref, EV.lstOf_ref, EV.lstOf_lst, EV.seqOf_tup, EV.seqOf_lst, EV.seqOf_ref, EV.seqOf_scr, EV.truth_bl, EV.forLoop_nil, EV.gname_at, EV.gtup_at, EV.gtup_lst, EV.go_nil, EV.go_cons, EV.gstar_at, EV.gsub_at, EV.startE_at, EV.wipeE_nil, EV.wipeE_cons, EV.isi_at, EV.len_at, EV.all_lst, EV.tuple_lst, EV.tuple_tup, EV.tuple_scr, EV.tuple_ref, EV.list_at, EV.isN_eq, EV.isN_ne, EV.isN_in, EV.isN_notIn, EV.cmp_int, EV.add_int, EV.sub_int, EV.mod_int, EV.fdiv_int, EV.mul_int, EV.mul_lst, EV.add_lst, EV.add_refL, EV.app_at, EV.join_at, EV.isStr_str, EV.add_tup, EV.add_str, EV.int_bl, EV.int_int, EV.sl_tup, EV.sl_lst, EV.sl_str, EV.pow_int, EV.neg_int, EV.ix_tup, EV.ix_lst, EV.ix_ref, EV.ix_scr, EV.sat_ok, EV.sat_exc, EV.sat_bad, EV.sat_bind, EV.satS_some, EV.satS_none, EV.satO_some, EV.satO_none, EV.toRet_nx, EV.toRet_ret, EV.toRet_exc, EV.sat_run, EV.toSeq_nx, EV.toSeq_ret, EV.toSeq_exc, EV.toSeq_bk, EV.toSeq_ct, EV.satS_seq, EV.satS_pass, EV.satS_brk, EV.satS_cnt, EV.satS_expr, EV.satS_ret, EV.satS_retN, EV.satS_asg, EV.satS_if, EV.satS_for, EV.sat_comp, EV.satS_par2, EV.satS_par3, EV.sat_ite, EV.fin_ite, EV.mdisp_at, EV.mpairs_nil, EV.mpairs_cons, EV.mixd_at, EV.mget2_at, EV.mdict_at, EV.mfz_at, EV.mstar_at, EV.mdzip_at, EV.Res.bind_ok, EV.Res.bind_bad, EV.Res.bind_exc, List.getElem?_cons_zero, List.getElem?_cons_succ, List.getElem?_nil, List.map_cons, List.map_nil, List.cons_append, List.nil_append, List.append_nil, List.length_cons, List.length_nil, List.set_cons_zero, List.set_cons_succ, Option.map_some, Option.map_none, Option.isSome_some, List.replicate_succ, List.replicate_zero, if_true, if_false, reduceIte, Nat.reduceAdd, Nat.reduceSub, Nat.reduceLeDiff, Nat.reduceEqDiff, Nat.reduceLT, Bool.false_eq_true, and_self, and_true, true_and, List.drop_succ_cons, List.drop_zero, List.take_succ_cons, List.take_zero, Nat.zero_add, Nat.add_zero, Bool.not_true, Bool.not_false, Nat.sub_self, Nat.le_refl, Int.reduceLT, Int.reduceNeg, Nat.reducePow, Int.reducePow, Int.reduceToNat, Int.reduceAdd, Int.reduceSub, Int.reduceLE, Int.cast_ofNat_Int, Int.reduceBEq, List.flatten_cons, List.flatten_nil, Nat.reduceMul, Nat.one_mul, Nat.mul_one, Nat.mul_zero, Nat.zero_le, Int.reduceMul, $as,*])
  | `(tactic| simp_arith only [EVT, $as,*] at $h:ident) => `(tactic| simp only [EV.mc_at, EV.mvar_at, EV.mnil_at, EV.mcons_at, EV.mop1_at, EV.mop2_at, EV.mtup_at, EV.mlst_at, EV.mfun_at, EV.mand_at, EV.mor_at, EV.mnot_at, EV.mandT_at, EV.morT_at, EV.mnotT_at, EV.mtru_at, EV.mbl_at, EV.mite_at, EV.mchain_at, EV.mcall_at, EV.mcallN_at, EV.mmeth_at, EV.msl_at, EV.mpart0, EV.mpart1, EV.mdic0_at, EV.iseq_at, EV.irng_at, EV.fin_none, EV.fin_v, EV.fin_newF, EV.fin_newT, EV.resM_some, EV.resM_none, EV.isLst_ref, EV.lstOf_ref, EV.lstOf_lst, EV.seqOf_tup, EV.seqOf_lst, EV.seqOf_ref, EV.seqOf_scr, EV.truth_bl, EV.forLoop_nil, EV.gname_at, EV.gtup_at, EV.gtup_lst, EV.go_nil, EV.go_cons, EV.gstar_at, EV.gsub_at, EV.startE_at, EV.wipeE_nil, EV.wipeE_cons, EV.isi_at, EV.len_at, EV.all_lst, EV.tuple_lst, EV.tuple_tup, EV.tuple_scr, EV.tuple_ref, EV.list_at, EV.isN_eq, EV.isN_ne, EV.isN_in, EV.isN_notIn, EV.cmp_int, EV.add_int, EV.sub_int, EV.mod_int, EV.fdiv_int, EV.mul_int, EV.mul_lst, EV.add_lst, EV.add_refL, EV.app_at, EV.join_at, EV.isStr_str, EV.add_tup, EV.add_str, EV.int_bl, EV.int_int, EV.sl_tup, EV.sl_lst, EV.sl_str, EV.pow_int, EV.neg_int, EV.ix_tup, EV.ix_lst, EV.ix_ref, EV.ix_scr, EV.sat_ok, EV.sat_exc, EV.sat_bad, EV.sat_bind, EV.satS_some, EV.satS_none, EV.satO_some, EV.satO_none, EV.toRet_nx, EV.toRet_ret, EV.toRet_exc, EV.sat_run, EV.toSeq_nx, EV.toSeq_ret, EV.toSeq_exc, EV.toSeq_bk, EV.toSeq_ct, EV.satS_seq, EV.satS_pass, EV.satS_brk, EV.satS_cnt, EV.satS_expr, EV.satS_ret, EV.satS_retN, EV.satS_asg, EV.satS_if, EV.satS_for, EV.sat_comp, EV.satS_par2, EV.satS_par3, EV.sat_ite, EV.fin_ite, EV.mdisp_at, EV.mpairs_nil, EV.mpairs_cons, EV.mixd_at, EV.mget2_at, EV.mdict_at, EV.mfz_at, EV.mstar_at, EV.mdzip_at, EV.Res.bind_ok, EV.Res.bind_bad, EV.Res.bind_exc, List.getElem?_cons_zero, List.getElem?_cons_succ, List.getElem?_nil, List.map_cons, List.map_nil, List.cons_append, List.nil_append, List.append_nil, List.length_cons, List.length_nil, List.set_cons_zero, List.set_cons_succ, Option.map_some, Option.map_none, Option.isSome_some, List.replicate_succ, List.replicate_zero, if_true, if_false, reduceIte, Nat.reduceAdd, Nat.reduceSub, Nat.reduceLeDiff, Nat.reduceEqDiff, Nat.reduceLT, Bool.false_eq_true, and_self, and_true, true_and, List.drop_succ_cons, List.drop_zero, List.take_succ_cons, List.take_zero, Nat.zero_add, Nat.add_zero, Bool.not_true, Bool.not_false, Nat.sub_self, Nat.le_refl, Int.reduceLT, Int.reduceNeg, Nat.reducePow, Int.reducePow, Int.reduceToNat, Int.reduceAdd, Int.reduceSub, Int.reduceLE, Int.cast_ofNat_Int, Int.reduceBEq, List.flatten_cons, List.flatten_nil, Nat.reduceMul, Nat.one_mul, Nat.mul_one, Nat.mul_zero, Nat.zero_le, Int.reduceMul, $as,*] at $h:ident)
local macro_rules
  | `(tactic| simp_arith only [EVTL, $as,*]) => `(tactic| simp only [EV.mc_at, EV.mvar_at, EV.mnil_at, EV.mcons_at, EV.mop1_at, EV.mop2_at, EV.mtup_at, EV.mlst_at, EV.mfun_at, EV.mand_at, EV.mor_at, EV.mnot_at, EV.mandT_at, EV.morT_at, EV.mnotT_at, EV.mtru_at, EV.mbl_at, EV.mite_at, EV.mchain_at, EV.mcall_at, EV.mcallN_at, EV.mmeth_at, EV.msl_at, EV.mpart0, EV.mpart1, EV.mdic0_at, EV.iseq_at, EV.irng_at, EV.fin_none, EV.fin_v, EV.fin_newF, EV.fin_newT, EV.resM_some, EV.resM_none, EV.isLst_ref, EV.lstOf_ref, EV.lstOf_lst, EV.seqOf_tup, EV.seqOf_lst, EV.seqOf_ref, EV.seqOf_scr, EV.truth_bl, EV.forLoop_nil, EV.gname_at, EV.gtup_at, EV.gtup_lst, EV.go_nil, EV.go_cons, EV.gstar_at, EV.gsub_at, EV.startE_at, EV.wipeE_nil, EV.wipeE_cons, EV.isi_at, EV.len_at, EV.all_lst, EV.tuple_lst, EV.tuple_tup, EV.tuple_scr, EV.tuple_ref, EV.list_at, EV.isN_eq, EV.isN_ne, EV.isN_in, EV.isN_notIn, EV.cmp_int, EV.add_int, EV.sub_int, EV.mod_int, EV.fdiv_int, EV.mul_int, EV.mul_lst, EV.add_lst, EV.add_refL, EV.app_at, EV.join_at, EV.isStr_str, EV.add_tup, EV.add_str, EV.int_bl, EV.int_int, EV.sl_tup, EV.sl_lst, EV.sl_str, EV.pow_int, EV.neg_int, EV.ix_tup, EV.ix_lst, EV.ix_ref, EV.ix_scr, EV.sat_ok, EV.sat_exc, EV.sat_bad, EV.sat_bind, EV.satS_some, EV.satS_none, EV.satO_some, EV.satO_none, EV.toRet_nx, EV.toRet_ret, EV.toRet_exc, EV.sat_run, EV.toSeq_nx, EV.toSeq_ret, EV.toSeq_exc, EV.toSeq_bk, EV.toSeq_ct, EV.satS_seq, EV.satS_pass, EV.satS_brk, EV.satS_cnt, EV.satS_expr, EV.satS_ret, EV.satS_retN, EV.satS_asg, EV.satS_if, EV.satS_for, EV.sat_comp, EV.satS_par2, EV.satS_par3, EV.sat_ite, EV.fin_ite, EV.mdisp_at, EV.mpairs_nil, EV.mpairs_cons, EV.mixd_at, EV.mget2_at, EV.mdict_at, EV.mfz_at, EV.mstar_at, EV.mdzip_at, EV.mdct0_t, EV.mdct0_f, EV.mdicR_at, EV.mgetT_at, EV.satS_putT, EV.putTo_ref, EV.dctOf_dct, EV.isDct_ref, EV.updT_at, EV.listT_at, EV.sortT_lst, EV.clear_at, EV.gQ_at, EV.gYield_at, EV.gSeq_at, EV.gIf_at, EV.gLoop_nil, EV.gFor_at, EV.gFrom_at, EV.runG_at, EV.ienum_at, EV.mlistG_at, EV.sat_runL, EV.Res.bind_ok, EV.Res.bind_bad, EV.Res.bind_exc, List.getElem?_cons_zero, List.getElem?_cons_succ, List.getElem?_nil, List.map_cons, List.map_nil, List.cons_append, List.nil_append, List.append_nil, List.length_cons, List.length_nil, List.set_cons_zero, List.set_cons_succ, Option.map_some, Option.map_none, Option.isSome_some, List.replicate_succ, List.replicate_zero, if_true, if_false, reduceIte, Nat.reduceAdd, Nat.reduceSub, Nat.reduceLeDiff, Nat.reduceEqDiff, Nat.reduceLT, Bool.false_eq_true, and_self, and_true, true_and, List.drop_succ_cons, List.drop_zero, List.take_succ_cons, List.take_zero, Nat.zero_add, Nat.add_zero, Bool.not_true, Bool.not_false, Nat.sub_self, Nat.le_refl, Int.reduceLT, Int.reduceNeg, Nat.reducePow, Int.reducePow, Int.reduceToNat, Int.reduceAdd, Int.reduceSub, Int.reduceLE, Int.cast_ofNat_Int, Int.reduceBEq, List.flatten_cons, List.flatten_nil, Nat.reduceMul, Nat.one_mul, Nat.mul_one, Nat.mul_zero, Nat.zero_le, Int.reduceMul, $as,*])
  | `(tactic| simp_arith only [EVTL, $as,*] at $h:ident) => `(tactic| simp only [EV.mc_at, EV.mvar_at, EV.mnil_at, EV.mcons_at, EV.mop1_at, EV.mop2_at, EV.mtup_at, EV.mlst_at, EV.mfun_at, EV.mand_at, EV.mor_at, EV.mnot_at, EV.mandT_at, EV.morT_at, EV.mnotT_at, EV.mtru_at, EV.mbl_at, EV.mite_at, EV.mchain_at, EV.mcall_at, EV.mcallN_at, EV.mmeth_at, EV.msl_at, EV.mpart0, EV.mpart1, EV.mdic0_at, EV.iseq_at, EV.irng_at, EV.fin_none, EV.fin_v, EV.fin_newF, EV.fin_newT, EV.resM_some, EV.resM_none, EV.isLst_ref, EV.lstOf_ref, EV.lstOf_lst, EV.seqOf_tup, EV.seqOf_lst, EV.seqOf_ref, EV.seqOf_scr, EV.truth_bl, EV.forLoop_nil, EV.gname_at, EV.gtup_at, EV.gtup_lst, EV.go_nil, EV.go_cons, EV.gstar_at, EV.gsub_at, EV.startE_at, EV.wipeE_nil, EV.wipeE_cons, EV.isi_at, EV.len_at, EV.all_lst, EV.tuple_lst, EV.tuple_tup, EV.tuple_scr, EV.tuple_ref, EV.list_at, EV.isN_eq, EV.isN_ne, EV.isN_in, EV.isN_notIn, EV.cmp_int, EV.add_int, EV.sub_int, EV.mod_int, EV.fdiv_int, EV.mul_int, EV.mul_lst, EV.add_lst, EV.add_refL, EV.app_at, EV.join_at, EV.isStr_str, EV.add_tup, EV.add_str, EV.int_bl, EV.int_int, EV.sl_tup, EV.sl_lst, EV.sl_str, EV.pow_int, EV.neg_int, EV.ix_tup, EV.ix_lst, EV.ix_ref, EV.ix_scr, EV.sat_ok, EV.sat_exc, EV.sat_bad, EV.sat_bind, EV.satS_some, EV.satS_none, EV.satO_some, EV.satO_none, EV.toRet_nx, EV.toRet_ret, EV.toRet_exc, EV.sat_run, EV.toSeq_nx, EV.toSeq_ret, EV.toSeq_exc, EV.toSeq_bk, EV.toSeq_ct, EV.satS_seq, EV.satS_pass, EV.satS_brk, EV.satS_cnt, EV.satS_expr, EV.satS_ret, EV.satS_retN, EV.satS_asg, EV.satS_if, EV.satS_for, EV.sat_comp, EV.satS_par2, EV.satS_par3, EV.sat_ite, EV.fin_ite, EV.mdisp_at, EV.mpairs_nil, EV.mpairs_cons, EV.mixd_at, EV.mget2_at, EV.mdict_at, EV.mfz_at, EV.mstar_at, EV.mdzip_at, EV.mdct0_t, EV.mdct0_f, EV.mdicR_at, EV.mgetT_at, EV.satS_putT, EV.putTo_ref, EV.dctOf_dct, EV.isDct_ref, EV.updT_at, EV.listT_at, EV.sortT_lst, EV.clear_at, EV.gQ_at, EV.gYield_at, EV.gSeq_at, EV.gIf_at, EV.gLoop_nil, EV.gFor_at, EV.gFrom_at, EV.runG_at, EV.ienum_at, EV.mlistG_at, EV.sat_runL, EV.Res.bind_ok, EV.Res.bind_bad, EV.Res.bind_exc, List.getElem?_cons_zero, List.getElem?_cons_succ, List.getElem?_nil, List.map_cons, List.map_nil, List.cons_append, List.nil_append, List.append_nil, List.length_cons, List.length_nil, List.set_cons_zero, List.set_cons_succ, Option.map_some, Option.map_none, Option.isSome_some, List.replicate_succ, List.replicate_zero, if_true, if_false, reduceIte, Nat.reduceAdd, Nat.reduceSub, Nat.reduceLeDiff, Nat.reduceEqDiff, Nat.reduceLT, Bool.false_eq_true, and_self, and_true, true_and, List.drop_succ_cons, List.drop_zero, List.take_succ_cons, List.take_zero, Nat.zero_add, Nat.add_zero, Bool.not_true, Bool.not_false, Nat.sub_self, Nat.le_refl, Int.reduceLT, Int.reduceNeg, Nat.reducePow, Int.reducePow, Int.reduceToNat, Int.reduceAdd, Int.reduceSub, Int.reduceLE, Int.cast_ofNat_Int, Int.reduceBEq, List.flatten_cons, List.flatten_nil, Nat.reduceMul, Nat.one_mul, Nat.mul_one, Nat.mul_zero, Nat.zero_le, Int.reduceMul, $as,*] at $h:ident)
namespace EV
open PySem PySem.Spec PyProof.Rows L2 RP
theorem draw (n : Nat) (h : Hd) (r : RngAt h n) (m : Int) (h0 : 0 < m) (h1 : m < 1073741824) : ∃ x h', F__law_draw [.ref n, .int m] h = .ok (.int x) h' ∧ Stp n h h' ∧ 0 ≤ x ∧ x < m := by
  have hn := r.lt
  obtain ⟨a, b, e, ha⟩ := r
  by_cases hp : 0 < a
  · refine ⟨a % m, h.set n (.lst [.int (a / m), .int b]), ?_, Stp.set hn (Int.ediv_nonneg ha (by omega)), Int.emod_nonneg _ (by omega), Int.emod_lt_of_pos _ h0⟩
    simp_arith only [EVS, F__law_draw, m__law_draw, e, at0, hp, decide_true, fDivmod, h0, h1, Nat.zero_lt_succ]
  · obtain rfl : a = 0 := by omega
    obtain ⟨c, hc⟩ : ∃ c, c = (b * 39373 + 9311) % 2147483629 := ⟨_, rfl⟩
    refine ⟨c * c % 2147483563 / 11 % m, h.set n (.lst [.int 0, .int c]), ?_, Stp.set hn (Int.le_refl _), Int.emod_nonneg _ (by omega), Int.emod_lt_of_pos _ h0⟩
    have hb : -18446744073709551616 < c ∧ c < 18446744073709551616 := by omega
    simp_arith only [EVS, F__law_draw, m__law_draw, e, at0, at1, hp, decide_false, h0, h1, hn, List.getElem?_set_self, List.set_set, List.length_set, or_true, true_or, ← hc, hb.1, hb.2]
theorem rng_new (ns : List Int) (k : Nat) (hk : k ≤ 1000) (h : Hd) : ∃ a b, F__law_rng [.scr ns, .int (k : Int)] h = .ok (.ref h.length) (h ++ [.lst [.int a, .int b]]) ∧ 0 ≤ a := by
  have h2 : (10 : Int).natAbs < 18446744073709551616 := by decide
  have h3 : (2 : Nat) ≤ sizeLine := len_le (by decide)
  by_cases hl : (k : Int) < ns.length
  · obtain ⟨y, e, hy⟩ := at_in (xs := ns.map D.int) (i := (k : Int)) (by omega) (by simpa using hl)
    obtain ⟨c, _, rfl⟩ := List.mem_map.mp hy
    obtain ⟨d, hd⟩ : ∃ d, d = (if c < 0 then -c else c) := ⟨_, rfl⟩
    have h1 : (d % 2147483563 + 4099 * (k : Int) + 17).natAbs < 18446744073709551616 := by omega
    refine ⟨if d - 1000000000000000000 > 0 then d - 1000000000000000000 else 0, (d % 2147483563 + 4099 * (k : Int) + 17) ^ 2 % 2147483549 + 1, ?_, by split <;> omega⟩
    simp_arith only [EVS, F__law_rng, m__law_rng, lenOf, List.length_map, hl, decide_true, e, fAbs, fMax, h1, h2, h3, true_or, ← hd]
  · have h1 : ((0 : Int) % 2147483563 + 4099 * (k : Int) + 17).natAbs < 18446744073709551616 := by omega
    refine ⟨0, ((0 : Int) % 2147483563 + 4099 * (k : Int) + 17) ^ 2 % 2147483549 + 1, ?_, Int.le_refl _⟩
    simp_arith only [EVS, F__law_rng, m__law_rng, lenOf, List.length_map, hl, decide_false, fMax, h1, h2, h3, true_or]
    rfl
theorem choice_of (n : Nat) (h : Hd) (r : RngAt h n) {d : D} {xs : List D} (hd : d = .lst xs ∨ d = .tup xs) (h0 : 0 < xs.length) (h1 : xs.length < 1000000) : ∃ y h', F__law_choice [.ref n, d] h = .ok y h' ∧ Stp n h h' ∧ y ∈ xs := by
  obtain ⟨x, h', e, s, p1, p2⟩ := draw n h r (xs.length : Int) (by omega) (by omega)
  obtain ⟨y, e2, hy⟩ := at_in p1 p2
  refine ⟨y, h', ?_, s, hy⟩
  rcases hd with rfl | rfl
  · simp_arith only [EVS, F__law_choice, m__law_choice, lenOf, e, e2]
  · simp_arith only [EVS, F__law_choice, m__law_choice, lenOf, e, e2]
section
variable {n : Nat} {h : Hd} {Q : D → Hd → Prop} {E : Exn → Hd → Prop} {env : Env}
theorem choice_sat (r : RngAt h n) {d : D} {xs : List D} (hd : d = .lst xs ∨ d = .tup xs) (h0 : 0 < xs.length) (h1 : xs.length < 1000000) (k : ∀ y h', Stp n h h' → y ∈ xs → Q y h') : Sat (F__law_choice [.ref n, d] h) Q E := by
  obtain ⟨y, h', e, s, p⟩ := choice_of n h r hd h0 h1
  rw [e]; exact k y h' s p
theorem value_sat (r : RngAt h n) (k : ∀ y h', Stp n h h' → y ∈ vals → Q y h') : Sat (F__law_value [.ref n] h) Q E := by
  have z0 : 0 ≤ sizeLine := Nat.zero_le _
  have z1 : 1 ≤ sizeLine := len_le (by decide)
  have z2 : 2 ≤ sizeLine := len_le (by decide)
  have z16 : 16 ≤ sizeLine := len_le (by decide)
  have pw : oPow (.int 10) (.int 29) h = some (.v (.int (10 ^ 29))) := by kernel_rfl
  have ds : mdisp false [(mc (.str "a"), mc (.int 1))] [some (.ref n), none] h = .ok (.dic [.inr "a"] [.int 1]) h := by kernel_rfl
  simp_arith only [EVT, F__law_value, m__law_value, -mdisp_at, z0, z1, z2, z16, ds, pw]
  refine ⟨by decide, ?_⟩
  exact choice_sat r (.inl rfl) (by decide) (by decide) fun y h' s hy => k y h' s hy
theorem satS_to {r : SR} {fl : Fl} {e : Env} {h : Hd} {S : Fl → Env → Hd → Prop} (q : r = some (fl, e, h)) (k : S fl e h) : SatS r S := by rw [q]; exact k
end
theorem law_true (ns : List Int) (hl : ns.length ≤ 63) : ∃ h, F_law [.scr ns] [] = .ok (.bl true) h := by
  have key : Sat (F_law [.scr ns] []) (fun y _ => y = .bl true) fun _ _ => False := by
    obtain ⟨c, hc, c5⟩ : ∃ c : Nat, (if (if ((ns.length : Nat) : Int) < (3 : Int) then ((ns.length : Nat) : Int) else (3 : Int)) > 1 then (if ((ns.length : Nat) : Int) < (3 : Int) then ((ns.length : Nat) : Int) else (3 : Int)) else 1) = (c : Int) ∧ c ≤ 3 := by
      by_cases h1 : ((ns.length : Nat) : Int) < (3 : Int)
      · rw [if_pos h1]
        by_cases h2 : ((ns.length : Nat) : Int) > 1
        · exact ⟨ns.length, by rw [if_pos h2], by omega⟩
        · exact ⟨1, by rw [if_neg h2]; rfl, by decide⟩
      · exact ⟨3, by rw [if_neg h1]; rfl, Nat.le_refl _⟩
    simp only [F_law, m_law, sat_run, startE_at, List.map_cons, List.map_nil, List.length_cons, List.length_nil, Nat.reduceAdd, Nat.reduceSub, List.replicate_succ, List.replicate_zero, List.cons_append, List.nil_append]
    rw [satS_seq]
    generalize hS : toSeq _ _ = S1
    refine satS_to (fl := .nx) (e := [some (.scr ns), some (.exn 0 [] []), none, none, none, none, none]) (h := []) (by kernel_rfl) ?_
    subst hS
    rw [toSeq_nx, satS_seq]
    generalize hS : toSeq _ _ = S1
    refine satS_to (fl := .nx) (e := [some (.scr ns), some (.exn 0 [] []), none, none, none, none, none]) (h := []) (by kernel_rfl) ?_
    subst hS
    rw [toSeq_nx, satS_seq]
    generalize hS : toSeq _ _ = S1
    have e4 : ((4 : Nat) : Int) = 4 := rfl
    have r4 := range_ok (n := 4) (by decide)
    rw [e4] at r4
    simp_arith only [EVTL, lenOf, fMin, fMax, List.length_map, hc, range_ok (n := c) (by omega)]
    refine for_sat (J := fun _ e _ => ∃ x y z w v, e = [some (.scr ns), some (.exn 0 [] []), x, y, z, w, v]) ⟨_, _, _, _, _, rfl⟩ (fun j x e h hx ⟨x0, y0, z0, w0, v0, he⟩ => ?_) fun e h ⟨x0, y0, z0, w0, v0, he⟩ => ?_
    · subst he
      have hj : j < c := by
        have := (List.getElem?_eq_some_iff.mp hx).1
        simpa using this
      obtain rfl : x = .int ((j : Nat) : Int) := by
        rw [List.getElem?_map, List.getElem?_range hj] at hx
        exact (Option.some.inj hx).symm
      obtain ⟨a, b, er, ha⟩ := rng_new ns j (by omega) h
      simp only [gname_at, satO_some, List.set_cons_succ, List.set_cons_zero]
      rw [satS_seq]
      generalize hS2 : toSeq _ _ = S2
      simp_arith only [EVTL, er]
      subst hS2
      rw [toSeq_nx]
      simp only [satS_for]
      simp_arith only [EVTL, r4]
      have ra : RngAt (h ++ [.lst [.int a, .int b]]) h.length := ⟨a, b, by simp, ha⟩
      refine for_sat (J := fun _ e h' => (∃ z w v, e = [some (.scr ns), some (.exn 0 [] []), some (.int ((j : Nat) : Int)), some (.ref h.length), z, w, v]) ∧ RngAt h' h.length) ⟨⟨_, _, _, rfl⟩, ra⟩ (fun i x e h2 hx2 ⟨⟨z1, w1, v1, he⟩, r2⟩ => ?_) fun e h2 ⟨⟨z1, w1, v1, he⟩, r2⟩ => ?_
      · subst he
        simp only [gname_at, satO_some, List.set_cons_succ, List.set_cons_zero]
        rw [satS_seq]
        generalize hS2 : toSeq _ _ = S2
        simp_arith only [EVTL, Res.bind_ok]
        refine value_sat r2 fun y h3 s3 hy => ?_
        refine value_sat s3.rng fun z h4 s4 hz => ?_
        subst hS2
        simp_arith only [EVTL, ones_ok hy, states_ok hy, pairs_ok hy hz, numbers_ok hy]
        exact ⟨⟨_, _, _, rfl⟩, s4.rng⟩
      · subst he
        exact ⟨_, _, _, _, _, rfl⟩
    · subst he
      subst hS
      simp_arith only [EVTL, Res.bind_ok]
  cases e : F_law [.scr ns] [] with
  | ok y h => rw [e] at key; exact ⟨h, by rw [show y = .bl true from key]⟩
  | exc x h => rw [e] at key; exact key.elim
  | bad => rw [e] at key; exact key.elim
end EV
set_option maxHeartbeats 4000000
namespace EV
open PySem PySem.Spec PyProof.Rows L2 RP
theorem all_mk {P : Program} {w : World} {K : PySem.W.Frag} {h : Heap} {mg : Str → Option Value} {fa : Addr} (X : K.In h) (G : h.Ns mainGlobals mg) (hfa : mg "law" = some (.ref fa))
    {C_MeantError : Addr} {C_InvalidName : Addr} {C_InvalidPath : Addr} {C_InvalidArguments : Addr} {C_InvalidProgram : Addr} {C_InvalidOrder : Addr} {C_InvalidChoices : Addr} {C_InvalidPlace : Addr} {C_InvalidFact : Addr} {C_InvalidProtected : Addr} {C_InvalidCount : Addr} {C_InvalidText : Addr} {C_InvalidCommand : Addr} {C_UnknownPlace : Addr} {C_UnknownModule : Addr} {C_UnknownCall : Addr} {C_UnknownFunction : Addr} {C_UnknownWorker : Addr} {C_Unsteady : Addr} {C_NotReady : Addr} {C_NoMeaning : Addr} {C_Protected : Addr} {C_Missing : Addr} {C_Circular : Addr} {C_NameTaken : Addr} {C_CallTaken : Addr} {C_Busy : Addr} {C_Idle : Addr} {C_Turned : Addr} {C_NothingToUndo : Addr} {C_CommandFailed : Addr} {C_TooMany : Addr} {f_InvalidName : Addr} {od_InvalidName : Option Addr} {an_InvalidName : Option Addr} {sl_InvalidName : Array (Option Value)} {oc_InvalidName : Value} {dc_InvalidName : Value} {pm_InvalidName : Value} {cd_InvalidName : Value} {ct_InvalidName : Value} {kV_InvalidName : Value} {f_InvalidPath : Addr} {od_InvalidPath : Option Addr} {an_InvalidPath : Option Addr} {sl_InvalidPath : Array (Option Value)} {oc_InvalidPath : Value} {dc_InvalidPath : Value} {pm_InvalidPath : Value} {cd_InvalidPath : Value} {ct_InvalidPath : Value} {kV_InvalidPath : Value} {f_InvalidArguments : Addr} {od_InvalidArguments : Option Addr} {an_InvalidArguments : Option Addr} {sl_InvalidArguments : Array (Option Value)} {oc_InvalidArguments : Value} {dc_InvalidArguments : Value} {pm_InvalidArguments : Value} {cd_InvalidArguments : Value} {ct_InvalidArguments : Value} {kV_InvalidArguments : Value} {f_InvalidProgram : Addr} {od_InvalidProgram : Option Addr} {an_InvalidProgram : Option Addr} {sl_InvalidProgram : Array (Option Value)} {oc_InvalidProgram : Value} {dc_InvalidProgram : Value} {pm_InvalidProgram : Value} {cd_InvalidProgram : Value} {ct_InvalidProgram : Value} {kV_InvalidProgram : Value} {f_InvalidOrder : Addr} {od_InvalidOrder : Option Addr} {an_InvalidOrder : Option Addr} {sl_InvalidOrder : Array (Option Value)} {oc_InvalidOrder : Value} {dc_InvalidOrder : Value} {pm_InvalidOrder : Value} {cd_InvalidOrder : Value} {ct_InvalidOrder : Value} {kV_InvalidOrder : Value} {f_InvalidChoices : Addr} {od_InvalidChoices : Option Addr} {an_InvalidChoices : Option Addr} {sl_InvalidChoices : Array (Option Value)} {oc_InvalidChoices : Value} {dc_InvalidChoices : Value} {pm_InvalidChoices : Value} {cd_InvalidChoices : Value} {ct_InvalidChoices : Value} {kV_InvalidChoices : Value} {f_InvalidPlace : Addr} {od_InvalidPlace : Option Addr} {an_InvalidPlace : Option Addr} {sl_InvalidPlace : Array (Option Value)} {oc_InvalidPlace : Value} {dc_InvalidPlace : Value} {pm_InvalidPlace : Value} {cd_InvalidPlace : Value} {ct_InvalidPlace : Value} {kV_InvalidPlace : Value} {f_InvalidFact : Addr} {od_InvalidFact : Option Addr} {an_InvalidFact : Option Addr} {sl_InvalidFact : Array (Option Value)} {oc_InvalidFact : Value} {dc_InvalidFact : Value} {pm_InvalidFact : Value} {cd_InvalidFact : Value} {ct_InvalidFact : Value} {kV_InvalidFact : Value} {f_InvalidProtected : Addr} {od_InvalidProtected : Option Addr} {an_InvalidProtected : Option Addr} {sl_InvalidProtected : Array (Option Value)} {oc_InvalidProtected : Value} {dc_InvalidProtected : Value} {pm_InvalidProtected : Value} {cd_InvalidProtected : Value} {ct_InvalidProtected : Value} {kV_InvalidProtected : Value} {f_InvalidCount : Addr} {od_InvalidCount : Option Addr} {an_InvalidCount : Option Addr} {sl_InvalidCount : Array (Option Value)} {oc_InvalidCount : Value} {dc_InvalidCount : Value} {pm_InvalidCount : Value} {cd_InvalidCount : Value} {ct_InvalidCount : Value} {kV_InvalidCount : Value} {f_InvalidText : Addr} {od_InvalidText : Option Addr} {an_InvalidText : Option Addr} {sl_InvalidText : Array (Option Value)} {oc_InvalidText : Value} {dc_InvalidText : Value} {pm_InvalidText : Value} {cd_InvalidText : Value} {ct_InvalidText : Value} {kV_InvalidText : Value} {f_InvalidCommand : Addr} {od_InvalidCommand : Option Addr} {an_InvalidCommand : Option Addr} {sl_InvalidCommand : Array (Option Value)} {oc_InvalidCommand : Value} {dc_InvalidCommand : Value} {pm_InvalidCommand : Value} {cd_InvalidCommand : Value} {ct_InvalidCommand : Value} {kV_InvalidCommand : Value} {f_UnknownPlace : Addr} {od_UnknownPlace : Option Addr} {an_UnknownPlace : Option Addr} {sl_UnknownPlace : Array (Option Value)} {oc_UnknownPlace : Value} {dc_UnknownPlace : Value} {pm_UnknownPlace : Value} {cd_UnknownPlace : Value} {ct_UnknownPlace : Value} {kV_UnknownPlace : Value} {f_UnknownModule : Addr} {od_UnknownModule : Option Addr} {an_UnknownModule : Option Addr} {sl_UnknownModule : Array (Option Value)} {oc_UnknownModule : Value} {dc_UnknownModule : Value} {pm_UnknownModule : Value} {cd_UnknownModule : Value} {ct_UnknownModule : Value} {kV_UnknownModule : Value} {f_UnknownCall : Addr} {od_UnknownCall : Option Addr} {an_UnknownCall : Option Addr} {sl_UnknownCall : Array (Option Value)} {oc_UnknownCall : Value} {dc_UnknownCall : Value} {pm_UnknownCall : Value} {cd_UnknownCall : Value} {ct_UnknownCall : Value} {kV_UnknownCall : Value} {f_UnknownFunction : Addr} {od_UnknownFunction : Option Addr} {an_UnknownFunction : Option Addr} {sl_UnknownFunction : Array (Option Value)} {oc_UnknownFunction : Value} {dc_UnknownFunction : Value} {pm_UnknownFunction : Value} {cd_UnknownFunction : Value} {ct_UnknownFunction : Value} {kV_UnknownFunction : Value} {f_UnknownWorker : Addr} {od_UnknownWorker : Option Addr} {an_UnknownWorker : Option Addr} {sl_UnknownWorker : Array (Option Value)} {oc_UnknownWorker : Value} {dc_UnknownWorker : Value} {pm_UnknownWorker : Value} {cd_UnknownWorker : Value} {ct_UnknownWorker : Value} {kV_UnknownWorker : Value} {f_Unsteady : Addr} {od_Unsteady : Option Addr} {an_Unsteady : Option Addr} {sl_Unsteady : Array (Option Value)} {oc_Unsteady : Value} {dc_Unsteady : Value} {pm_Unsteady : Value} {cd_Unsteady : Value} {ct_Unsteady : Value} {kV_Unsteady : Value} {f_NotReady : Addr} {od_NotReady : Option Addr} {an_NotReady : Option Addr} {sl_NotReady : Array (Option Value)} {oc_NotReady : Value} {dc_NotReady : Value} {pm_NotReady : Value} {cd_NotReady : Value} {ct_NotReady : Value} {kV_NotReady : Value} {f_NoMeaning : Addr} {od_NoMeaning : Option Addr} {an_NoMeaning : Option Addr} {sl_NoMeaning : Array (Option Value)} {oc_NoMeaning : Value} {dc_NoMeaning : Value} {pm_NoMeaning : Value} {cd_NoMeaning : Value} {ct_NoMeaning : Value} {kV_NoMeaning : Value} {f_Protected : Addr} {od_Protected : Option Addr} {an_Protected : Option Addr} {sl_Protected : Array (Option Value)} {oc_Protected : Value} {dc_Protected : Value} {pm_Protected : Value} {cd_Protected : Value} {ct_Protected : Value} {kV_Protected : Value} {f_Missing : Addr} {od_Missing : Option Addr} {an_Missing : Option Addr} {sl_Missing : Array (Option Value)} {oc_Missing : Value} {dc_Missing : Value} {pm_Missing : Value} {cd_Missing : Value} {ct_Missing : Value} {kV_Missing : Value} {f_Circular : Addr} {od_Circular : Option Addr} {an_Circular : Option Addr} {sl_Circular : Array (Option Value)} {oc_Circular : Value} {dc_Circular : Value} {pm_Circular : Value} {cd_Circular : Value} {ct_Circular : Value} {kV_Circular : Value} {f_NameTaken : Addr} {od_NameTaken : Option Addr} {an_NameTaken : Option Addr} {sl_NameTaken : Array (Option Value)} {oc_NameTaken : Value} {dc_NameTaken : Value} {pm_NameTaken : Value} {cd_NameTaken : Value} {ct_NameTaken : Value} {kV_NameTaken : Value} {f_CallTaken : Addr} {od_CallTaken : Option Addr} {an_CallTaken : Option Addr} {sl_CallTaken : Array (Option Value)} {oc_CallTaken : Value} {dc_CallTaken : Value} {pm_CallTaken : Value} {cd_CallTaken : Value} {ct_CallTaken : Value} {kV_CallTaken : Value} {f_Busy : Addr} {od_Busy : Option Addr} {an_Busy : Option Addr} {sl_Busy : Array (Option Value)} {oc_Busy : Value} {dc_Busy : Value} {pm_Busy : Value} {cd_Busy : Value} {ct_Busy : Value} {kV_Busy : Value} {f_Idle : Addr} {od_Idle : Option Addr} {an_Idle : Option Addr} {sl_Idle : Array (Option Value)} {oc_Idle : Value} {dc_Idle : Value} {pm_Idle : Value} {cd_Idle : Value} {ct_Idle : Value} {kV_Idle : Value} {f_Turned : Addr} {od_Turned : Option Addr} {an_Turned : Option Addr} {sl_Turned : Array (Option Value)} {oc_Turned : Value} {dc_Turned : Value} {pm_Turned : Value} {cd_Turned : Value} {ct_Turned : Value} {kV_Turned : Value} {f_NothingToUndo : Addr} {od_NothingToUndo : Option Addr} {an_NothingToUndo : Option Addr} {sl_NothingToUndo : Array (Option Value)} {oc_NothingToUndo : Value} {dc_NothingToUndo : Value} {pm_NothingToUndo : Value} {cd_NothingToUndo : Value} {ct_NothingToUndo : Value} {kV_NothingToUndo : Value} {f_CommandFailed : Addr} {od_CommandFailed : Option Addr} {an_CommandFailed : Option Addr} {sl_CommandFailed : Array (Option Value)} {oc_CommandFailed : Value} {dc_CommandFailed : Value} {pm_CommandFailed : Value} {cd_CommandFailed : Value} {ct_CommandFailed : Value} {kV_CommandFailed : Value} {f_TooMany : Addr} {od_TooMany : Option Addr} {an_TooMany : Option Addr} {sl_TooMany : Array (Option Value)} {oc_TooMany : Value} {dc_TooMany : Value} {pm_TooMany : Value} {cd_TooMany : Value} {ct_TooMany : Value} {kV_TooMany : Value} {f__law_rng : Addr} {od__law_rng : Option Addr} {an__law_rng : Option Addr} {sl__law_rng : Array (Option Value)} {oc__law_rng : Value} {dc__law_rng : Value} {pm__law_rng : Value} {cd__law_rng : Value} {ct__law_rng : Value} {kV__law_rng : Value} {f__law_draw : Addr} {od__law_draw : Option Addr} {an__law_draw : Option Addr} {sl__law_draw : Array (Option Value)} {oc__law_draw : Value} {dc__law_draw : Value} {pm__law_draw : Value} {cd__law_draw : Value} {ct__law_draw : Value} {kV__law_draw : Value} {f__law_choice : Addr} {od__law_choice : Option Addr} {an__law_choice : Option Addr} {sl__law_choice : Array (Option Value)} {oc__law_choice : Value} {dc__law_choice : Value} {pm__law_choice : Value} {cd__law_choice : Value} {ct__law_choice : Value} {kV__law_choice : Value} {f__law_value : Addr} {od__law_value : Option Addr} {an__law_value : Option Addr} {sl__law_value : Array (Option Value)} {oc__law_value : Value} {dc__law_value : Value} {pm__law_value : Value} {cd__law_value : Value} {ct__law_value : Value} {kV__law_value : Value} {f__law_bases : Addr} {od__law_bases : Option Addr} {an__law_bases : Option Addr} {sl__law_bases : Array (Option Value)} {oc__law_bases : Value} {dc__law_bases : Value} {pm__law_bases : Value} {cd__law_bases : Value} {ct__law_bases : Value} {kV__law_bases : Value} {f__law_kinds : Addr} {od__law_kinds : Option Addr} {an__law_kinds : Option Addr} {sl__law_kinds : Array (Option Value)} {oc__law_kinds : Value} {dc__law_kinds : Value} {pm__law_kinds : Value} {cd__law_kinds : Value} {ct__law_kinds : Value} {kV__law_kinds : Value} {f__law_ones_right : Addr} {od__law_ones_right : Option Addr} {an__law_ones_right : Option Addr} {sl__law_ones_right : Array (Option Value)} {oc__law_ones_right : Value} {dc__law_ones_right : Value} {pm__law_ones_right : Value} {cd__law_ones_right : Value} {ct__law_ones_right : Value} {kV__law_ones_right : Value} {f__law_states_right : Addr} {od__law_states_right : Option Addr} {an__law_states_right : Option Addr} {sl__law_states_right : Array (Option Value)} {oc__law_states_right : Value} {dc__law_states_right : Value} {pm__law_states_right : Value} {cd__law_states_right : Value} {ct__law_states_right : Value} {kV__law_states_right : Value} {f__law_pairs_right : Addr} {od__law_pairs_right : Option Addr} {an__law_pairs_right : Option Addr} {sl__law_pairs_right : Array (Option Value)} {oc__law_pairs_right : Value} {dc__law_pairs_right : Value} {pm__law_pairs_right : Value} {cd__law_pairs_right : Value} {ct__law_pairs_right : Value} {kV__law_pairs_right : Value} {f__law_numbers_right : Addr} {od__law_numbers_right : Option Addr} {an__law_numbers_right : Option Addr} {sl__law_numbers_right : Array (Option Value)} {oc__law_numbers_right : Value} {dc__law_numbers_right : Value} {pm__law_numbers_right : Value} {cd__law_numbers_right : Value} {ct__law_numbers_right : Value} {kV__law_numbers_right : Value} {f_law : Addr} {od_law : Option Addr} {an_law : Option Addr} {sl_law : Array (Option Value)} {oc_law : Value} {dc_law : Value} {pm_law : Value} {cd_law : Value} {ct_law : Value} {kV_law : Value}
    (z_ArithmeticError : PySem.W.nsIn K mainGlobals "ArithmeticError" = some none)
    (z_Exception : PySem.W.nsIn K mainGlobals "Exception" = some none)
    (z_LookupError : PySem.W.nsIn K mainGlobals "LookupError" = some none)
    (z_RuntimeError : PySem.W.nsIn K mainGlobals "RuntimeError" = some none)
    (z_ValueError : PySem.W.nsIn K mainGlobals "ValueError" = some none)
    (z_abs : PySem.W.nsIn K mainGlobals "abs" = some none)
    (z_all : PySem.W.nsIn K mainGlobals "all" = some none)
    (z_divmod : PySem.W.nsIn K mainGlobals "divmod" = some none)
    (z_isinstance : PySem.W.nsIn K mainGlobals "isinstance" = some none)
    (z_len : PySem.W.nsIn K mainGlobals "len" = some none)
    (z_max : PySem.W.nsIn K mainGlobals "max" = some none)
    (z_min : PySem.W.nsIn K mainGlobals "min" = some none)
    (z_range : PySem.W.nsIn K mainGlobals "range" = some none)
    (z_repr : PySem.W.nsIn K mainGlobals "repr" = some none)
    (z_sum : PySem.W.nsIn K mainGlobals "sum" = some none)
    (ac_MeantError : PySem.W.nsIn K mainGlobals "MeantError" = some (some (.ref C_MeantError)))
    (ac_InvalidName : PySem.W.nsIn K mainGlobals "InvalidName" = some (some (.ref C_InvalidName)))
    (ac_InvalidPath : PySem.W.nsIn K mainGlobals "InvalidPath" = some (some (.ref C_InvalidPath)))
    (ac_InvalidArguments : PySem.W.nsIn K mainGlobals "InvalidArguments" = some (some (.ref C_InvalidArguments)))
    (ac_InvalidProgram : PySem.W.nsIn K mainGlobals "InvalidProgram" = some (some (.ref C_InvalidProgram)))
    (ac_InvalidOrder : PySem.W.nsIn K mainGlobals "InvalidOrder" = some (some (.ref C_InvalidOrder)))
    (ac_InvalidChoices : PySem.W.nsIn K mainGlobals "InvalidChoices" = some (some (.ref C_InvalidChoices)))
    (ac_InvalidPlace : PySem.W.nsIn K mainGlobals "InvalidPlace" = some (some (.ref C_InvalidPlace)))
    (ac_InvalidFact : PySem.W.nsIn K mainGlobals "InvalidFact" = some (some (.ref C_InvalidFact)))
    (ac_InvalidProtected : PySem.W.nsIn K mainGlobals "InvalidProtected" = some (some (.ref C_InvalidProtected)))
    (ac_InvalidCount : PySem.W.nsIn K mainGlobals "InvalidCount" = some (some (.ref C_InvalidCount)))
    (ac_InvalidText : PySem.W.nsIn K mainGlobals "InvalidText" = some (some (.ref C_InvalidText)))
    (ac_InvalidCommand : PySem.W.nsIn K mainGlobals "InvalidCommand" = some (some (.ref C_InvalidCommand)))
    (ac_UnknownPlace : PySem.W.nsIn K mainGlobals "UnknownPlace" = some (some (.ref C_UnknownPlace)))
    (ac_UnknownModule : PySem.W.nsIn K mainGlobals "UnknownModule" = some (some (.ref C_UnknownModule)))
    (ac_UnknownCall : PySem.W.nsIn K mainGlobals "UnknownCall" = some (some (.ref C_UnknownCall)))
    (ac_UnknownFunction : PySem.W.nsIn K mainGlobals "UnknownFunction" = some (some (.ref C_UnknownFunction)))
    (ac_UnknownWorker : PySem.W.nsIn K mainGlobals "UnknownWorker" = some (some (.ref C_UnknownWorker)))
    (ac_Unsteady : PySem.W.nsIn K mainGlobals "Unsteady" = some (some (.ref C_Unsteady)))
    (ac_NotReady : PySem.W.nsIn K mainGlobals "NotReady" = some (some (.ref C_NotReady)))
    (ac_NoMeaning : PySem.W.nsIn K mainGlobals "NoMeaning" = some (some (.ref C_NoMeaning)))
    (ac_Protected : PySem.W.nsIn K mainGlobals "Protected" = some (some (.ref C_Protected)))
    (ac_Missing : PySem.W.nsIn K mainGlobals "Missing" = some (some (.ref C_Missing)))
    (ac_Circular : PySem.W.nsIn K mainGlobals "Circular" = some (some (.ref C_Circular)))
    (ac_NameTaken : PySem.W.nsIn K mainGlobals "NameTaken" = some (some (.ref C_NameTaken)))
    (ac_CallTaken : PySem.W.nsIn K mainGlobals "CallTaken" = some (some (.ref C_CallTaken)))
    (ac_Busy : PySem.W.nsIn K mainGlobals "Busy" = some (some (.ref C_Busy)))
    (ac_Idle : PySem.W.nsIn K mainGlobals "Idle" = some (some (.ref C_Idle)))
    (ac_Turned : PySem.W.nsIn K mainGlobals "Turned" = some (some (.ref C_Turned)))
    (ac_NothingToUndo : PySem.W.nsIn K mainGlobals "NothingToUndo" = some (some (.ref C_NothingToUndo)))
    (ac_CommandFailed : PySem.W.nsIn K mainGlobals "CommandFailed" = some (some (.ref C_CommandFailed)))
    (ac_TooMany : PySem.W.nsIn K mainGlobals "TooMany" = some (some (.ref C_TooMany)))
    (exget : PySem.W.specialIn K (.builtin "object.__class__") "__get__" = some (some (.builtin "getset_descriptor.__get__")))
    (extk : PySem.W.takesIn K (.builtin "object.__class__") = some true)
    (ek_MeantError : PySem.W.keepIn K (.ref C_MeantError) = true)
    (rd_MeantError : PySem.W.readsIn K C_MeantError (.type "type") = true)
    (ga_MeantError : PySem.W.specialIn K (.ref C_MeantError) "__getattribute__" = some (some (.builtin "type.__getattribute__")))
    (vi_MeantError : PySem.W.findCls K (.ref C_MeantError) (.type "type") "__init__" = some (.val (.builtin "ValueError.__init__")))
    (vb_LookupError : PySem.W.findCls K (.type "LookupError") (.type "type") "__init__" = some (.val (.builtin "LookupError.__init__")))
    (vb_RuntimeError : PySem.W.findCls K (.type "RuntimeError") (.type "type") "__init__" = some (.val (.builtin "RuntimeError.__init__")))
    (vb_ArithmeticError : PySem.W.findCls K (.type "ArithmeticError") (.type "type") "__init__" = some (.val (.builtin "ArithmeticError.__init__")))
    (ai_InvalidName : PySem.W.findIn K (.ref C_InvalidName) "__init__" = some (some (.ref f_InvalidName)))
    (ti_InvalidName : PySem.W.typeIn K (.ref f_InvalidName) = some (.type "function"))
    (l_InvalidName : K.lookup f_InvalidName = some ⟨oc_InvalidName, od_InvalidName, .func (PySem.W.fnOf "__init__" "InvalidName.__init__" (defArgs st_InvalidName) (defBody st_InvalidName) (defScope st_InvalidName) .none kV_InvalidName dc_InvalidName pm_InvalidName an_InvalidName cd_InvalidName ct_InvalidName), sl_InvalidName⟩)
    (c_InvalidName : PySem.W.codeIn K cd_InvalidName "InvalidName.__init__" = true)
    (k_InvalidName : PySem.W.keepIn K (.ref f_InvalidName) = true)
    (ai_InvalidPath : PySem.W.findIn K (.ref C_InvalidPath) "__init__" = some (some (.ref f_InvalidPath)))
    (ti_InvalidPath : PySem.W.typeIn K (.ref f_InvalidPath) = some (.type "function"))
    (l_InvalidPath : K.lookup f_InvalidPath = some ⟨oc_InvalidPath, od_InvalidPath, .func (PySem.W.fnOf "__init__" "InvalidPath.__init__" (defArgs st_InvalidPath) (defBody st_InvalidPath) (defScope st_InvalidPath) .none kV_InvalidPath dc_InvalidPath pm_InvalidPath an_InvalidPath cd_InvalidPath ct_InvalidPath), sl_InvalidPath⟩)
    (c_InvalidPath : PySem.W.codeIn K cd_InvalidPath "InvalidPath.__init__" = true)
    (k_InvalidPath : PySem.W.keepIn K (.ref f_InvalidPath) = true)
    (ai_InvalidArguments : PySem.W.findIn K (.ref C_InvalidArguments) "__init__" = some (some (.ref f_InvalidArguments)))
    (ti_InvalidArguments : PySem.W.typeIn K (.ref f_InvalidArguments) = some (.type "function"))
    (l_InvalidArguments : K.lookup f_InvalidArguments = some ⟨oc_InvalidArguments, od_InvalidArguments, .func (PySem.W.fnOf "__init__" "InvalidArguments.__init__" (defArgs st_InvalidArguments) (defBody st_InvalidArguments) (defScope st_InvalidArguments) .none kV_InvalidArguments dc_InvalidArguments pm_InvalidArguments an_InvalidArguments cd_InvalidArguments ct_InvalidArguments), sl_InvalidArguments⟩)
    (c_InvalidArguments : PySem.W.codeIn K cd_InvalidArguments "InvalidArguments.__init__" = true)
    (k_InvalidArguments : PySem.W.keepIn K (.ref f_InvalidArguments) = true)
    (ai_InvalidProgram : PySem.W.findIn K (.ref C_InvalidProgram) "__init__" = some (some (.ref f_InvalidProgram)))
    (ti_InvalidProgram : PySem.W.typeIn K (.ref f_InvalidProgram) = some (.type "function"))
    (l_InvalidProgram : K.lookup f_InvalidProgram = some ⟨oc_InvalidProgram, od_InvalidProgram, .func (PySem.W.fnOf "__init__" "InvalidProgram.__init__" (defArgs st_InvalidProgram) (defBody st_InvalidProgram) (defScope st_InvalidProgram) .none kV_InvalidProgram dc_InvalidProgram pm_InvalidProgram an_InvalidProgram cd_InvalidProgram ct_InvalidProgram), sl_InvalidProgram⟩)
    (c_InvalidProgram : PySem.W.codeIn K cd_InvalidProgram "InvalidProgram.__init__" = true)
    (k_InvalidProgram : PySem.W.keepIn K (.ref f_InvalidProgram) = true)
    (ai_InvalidOrder : PySem.W.findIn K (.ref C_InvalidOrder) "__init__" = some (some (.ref f_InvalidOrder)))
    (ti_InvalidOrder : PySem.W.typeIn K (.ref f_InvalidOrder) = some (.type "function"))
    (l_InvalidOrder : K.lookup f_InvalidOrder = some ⟨oc_InvalidOrder, od_InvalidOrder, .func (PySem.W.fnOf "__init__" "InvalidOrder.__init__" (defArgs st_InvalidOrder) (defBody st_InvalidOrder) (defScope st_InvalidOrder) .none kV_InvalidOrder dc_InvalidOrder pm_InvalidOrder an_InvalidOrder cd_InvalidOrder ct_InvalidOrder), sl_InvalidOrder⟩)
    (c_InvalidOrder : PySem.W.codeIn K cd_InvalidOrder "InvalidOrder.__init__" = true)
    (k_InvalidOrder : PySem.W.keepIn K (.ref f_InvalidOrder) = true)
    (ai_InvalidChoices : PySem.W.findIn K (.ref C_InvalidChoices) "__init__" = some (some (.ref f_InvalidChoices)))
    (ti_InvalidChoices : PySem.W.typeIn K (.ref f_InvalidChoices) = some (.type "function"))
    (l_InvalidChoices : K.lookup f_InvalidChoices = some ⟨oc_InvalidChoices, od_InvalidChoices, .func (PySem.W.fnOf "__init__" "InvalidChoices.__init__" (defArgs st_InvalidChoices) (defBody st_InvalidChoices) (defScope st_InvalidChoices) .none kV_InvalidChoices dc_InvalidChoices pm_InvalidChoices an_InvalidChoices cd_InvalidChoices ct_InvalidChoices), sl_InvalidChoices⟩)
    (c_InvalidChoices : PySem.W.codeIn K cd_InvalidChoices "InvalidChoices.__init__" = true)
    (k_InvalidChoices : PySem.W.keepIn K (.ref f_InvalidChoices) = true)
    (ai_InvalidPlace : PySem.W.findIn K (.ref C_InvalidPlace) "__init__" = some (some (.ref f_InvalidPlace)))
    (ti_InvalidPlace : PySem.W.typeIn K (.ref f_InvalidPlace) = some (.type "function"))
    (l_InvalidPlace : K.lookup f_InvalidPlace = some ⟨oc_InvalidPlace, od_InvalidPlace, .func (PySem.W.fnOf "__init__" "InvalidPlace.__init__" (defArgs st_InvalidPlace) (defBody st_InvalidPlace) (defScope st_InvalidPlace) .none kV_InvalidPlace dc_InvalidPlace pm_InvalidPlace an_InvalidPlace cd_InvalidPlace ct_InvalidPlace), sl_InvalidPlace⟩)
    (c_InvalidPlace : PySem.W.codeIn K cd_InvalidPlace "InvalidPlace.__init__" = true)
    (k_InvalidPlace : PySem.W.keepIn K (.ref f_InvalidPlace) = true)
    (ai_InvalidFact : PySem.W.findIn K (.ref C_InvalidFact) "__init__" = some (some (.ref f_InvalidFact)))
    (ti_InvalidFact : PySem.W.typeIn K (.ref f_InvalidFact) = some (.type "function"))
    (l_InvalidFact : K.lookup f_InvalidFact = some ⟨oc_InvalidFact, od_InvalidFact, .func (PySem.W.fnOf "__init__" "InvalidFact.__init__" (defArgs st_InvalidFact) (defBody st_InvalidFact) (defScope st_InvalidFact) .none kV_InvalidFact dc_InvalidFact pm_InvalidFact an_InvalidFact cd_InvalidFact ct_InvalidFact), sl_InvalidFact⟩)
    (c_InvalidFact : PySem.W.codeIn K cd_InvalidFact "InvalidFact.__init__" = true)
    (k_InvalidFact : PySem.W.keepIn K (.ref f_InvalidFact) = true)
    (ai_InvalidProtected : PySem.W.findIn K (.ref C_InvalidProtected) "__init__" = some (some (.ref f_InvalidProtected)))
    (ti_InvalidProtected : PySem.W.typeIn K (.ref f_InvalidProtected) = some (.type "function"))
    (l_InvalidProtected : K.lookup f_InvalidProtected = some ⟨oc_InvalidProtected, od_InvalidProtected, .func (PySem.W.fnOf "__init__" "InvalidProtected.__init__" (defArgs st_InvalidProtected) (defBody st_InvalidProtected) (defScope st_InvalidProtected) .none kV_InvalidProtected dc_InvalidProtected pm_InvalidProtected an_InvalidProtected cd_InvalidProtected ct_InvalidProtected), sl_InvalidProtected⟩)
    (c_InvalidProtected : PySem.W.codeIn K cd_InvalidProtected "InvalidProtected.__init__" = true)
    (k_InvalidProtected : PySem.W.keepIn K (.ref f_InvalidProtected) = true)
    (ai_InvalidCount : PySem.W.findIn K (.ref C_InvalidCount) "__init__" = some (some (.ref f_InvalidCount)))
    (ti_InvalidCount : PySem.W.typeIn K (.ref f_InvalidCount) = some (.type "function"))
    (l_InvalidCount : K.lookup f_InvalidCount = some ⟨oc_InvalidCount, od_InvalidCount, .func (PySem.W.fnOf "__init__" "InvalidCount.__init__" (defArgs st_InvalidCount) (defBody st_InvalidCount) (defScope st_InvalidCount) .none kV_InvalidCount dc_InvalidCount pm_InvalidCount an_InvalidCount cd_InvalidCount ct_InvalidCount), sl_InvalidCount⟩)
    (c_InvalidCount : PySem.W.codeIn K cd_InvalidCount "InvalidCount.__init__" = true)
    (k_InvalidCount : PySem.W.keepIn K (.ref f_InvalidCount) = true)
    (ai_InvalidText : PySem.W.findIn K (.ref C_InvalidText) "__init__" = some (some (.ref f_InvalidText)))
    (ti_InvalidText : PySem.W.typeIn K (.ref f_InvalidText) = some (.type "function"))
    (l_InvalidText : K.lookup f_InvalidText = some ⟨oc_InvalidText, od_InvalidText, .func (PySem.W.fnOf "__init__" "InvalidText.__init__" (defArgs st_InvalidText) (defBody st_InvalidText) (defScope st_InvalidText) .none kV_InvalidText dc_InvalidText pm_InvalidText an_InvalidText cd_InvalidText ct_InvalidText), sl_InvalidText⟩)
    (c_InvalidText : PySem.W.codeIn K cd_InvalidText "InvalidText.__init__" = true)
    (k_InvalidText : PySem.W.keepIn K (.ref f_InvalidText) = true)
    (ai_InvalidCommand : PySem.W.findIn K (.ref C_InvalidCommand) "__init__" = some (some (.ref f_InvalidCommand)))
    (ti_InvalidCommand : PySem.W.typeIn K (.ref f_InvalidCommand) = some (.type "function"))
    (l_InvalidCommand : K.lookup f_InvalidCommand = some ⟨oc_InvalidCommand, od_InvalidCommand, .func (PySem.W.fnOf "__init__" "InvalidCommand.__init__" (defArgs st_InvalidCommand) (defBody st_InvalidCommand) (defScope st_InvalidCommand) .none kV_InvalidCommand dc_InvalidCommand pm_InvalidCommand an_InvalidCommand cd_InvalidCommand ct_InvalidCommand), sl_InvalidCommand⟩)
    (c_InvalidCommand : PySem.W.codeIn K cd_InvalidCommand "InvalidCommand.__init__" = true)
    (k_InvalidCommand : PySem.W.keepIn K (.ref f_InvalidCommand) = true)
    (ai_UnknownPlace : PySem.W.findIn K (.ref C_UnknownPlace) "__init__" = some (some (.ref f_UnknownPlace)))
    (ti_UnknownPlace : PySem.W.typeIn K (.ref f_UnknownPlace) = some (.type "function"))
    (l_UnknownPlace : K.lookup f_UnknownPlace = some ⟨oc_UnknownPlace, od_UnknownPlace, .func (PySem.W.fnOf "__init__" "UnknownPlace.__init__" (defArgs st_UnknownPlace) (defBody st_UnknownPlace) (defScope st_UnknownPlace) .none kV_UnknownPlace dc_UnknownPlace pm_UnknownPlace an_UnknownPlace cd_UnknownPlace ct_UnknownPlace), sl_UnknownPlace⟩)
    (c_UnknownPlace : PySem.W.codeIn K cd_UnknownPlace "UnknownPlace.__init__" = true)
    (k_UnknownPlace : PySem.W.keepIn K (.ref f_UnknownPlace) = true)
    (ai_UnknownModule : PySem.W.findIn K (.ref C_UnknownModule) "__init__" = some (some (.ref f_UnknownModule)))
    (ti_UnknownModule : PySem.W.typeIn K (.ref f_UnknownModule) = some (.type "function"))
    (l_UnknownModule : K.lookup f_UnknownModule = some ⟨oc_UnknownModule, od_UnknownModule, .func (PySem.W.fnOf "__init__" "UnknownModule.__init__" (defArgs st_UnknownModule) (defBody st_UnknownModule) (defScope st_UnknownModule) .none kV_UnknownModule dc_UnknownModule pm_UnknownModule an_UnknownModule cd_UnknownModule ct_UnknownModule), sl_UnknownModule⟩)
    (c_UnknownModule : PySem.W.codeIn K cd_UnknownModule "UnknownModule.__init__" = true)
    (k_UnknownModule : PySem.W.keepIn K (.ref f_UnknownModule) = true)
    (ai_UnknownCall : PySem.W.findIn K (.ref C_UnknownCall) "__init__" = some (some (.ref f_UnknownCall)))
    (ti_UnknownCall : PySem.W.typeIn K (.ref f_UnknownCall) = some (.type "function"))
    (l_UnknownCall : K.lookup f_UnknownCall = some ⟨oc_UnknownCall, od_UnknownCall, .func (PySem.W.fnOf "__init__" "UnknownCall.__init__" (defArgs st_UnknownCall) (defBody st_UnknownCall) (defScope st_UnknownCall) .none kV_UnknownCall dc_UnknownCall pm_UnknownCall an_UnknownCall cd_UnknownCall ct_UnknownCall), sl_UnknownCall⟩)
    (c_UnknownCall : PySem.W.codeIn K cd_UnknownCall "UnknownCall.__init__" = true)
    (k_UnknownCall : PySem.W.keepIn K (.ref f_UnknownCall) = true)
    (ai_UnknownFunction : PySem.W.findIn K (.ref C_UnknownFunction) "__init__" = some (some (.ref f_UnknownFunction)))
    (ti_UnknownFunction : PySem.W.typeIn K (.ref f_UnknownFunction) = some (.type "function"))
    (l_UnknownFunction : K.lookup f_UnknownFunction = some ⟨oc_UnknownFunction, od_UnknownFunction, .func (PySem.W.fnOf "__init__" "UnknownFunction.__init__" (defArgs st_UnknownFunction) (defBody st_UnknownFunction) (defScope st_UnknownFunction) .none kV_UnknownFunction dc_UnknownFunction pm_UnknownFunction an_UnknownFunction cd_UnknownFunction ct_UnknownFunction), sl_UnknownFunction⟩)
    (c_UnknownFunction : PySem.W.codeIn K cd_UnknownFunction "UnknownFunction.__init__" = true)
    (k_UnknownFunction : PySem.W.keepIn K (.ref f_UnknownFunction) = true)
    (ai_UnknownWorker : PySem.W.findIn K (.ref C_UnknownWorker) "__init__" = some (some (.ref f_UnknownWorker)))
    (ti_UnknownWorker : PySem.W.typeIn K (.ref f_UnknownWorker) = some (.type "function"))
    (l_UnknownWorker : K.lookup f_UnknownWorker = some ⟨oc_UnknownWorker, od_UnknownWorker, .func (PySem.W.fnOf "__init__" "UnknownWorker.__init__" (defArgs st_UnknownWorker) (defBody st_UnknownWorker) (defScope st_UnknownWorker) .none kV_UnknownWorker dc_UnknownWorker pm_UnknownWorker an_UnknownWorker cd_UnknownWorker ct_UnknownWorker), sl_UnknownWorker⟩)
    (c_UnknownWorker : PySem.W.codeIn K cd_UnknownWorker "UnknownWorker.__init__" = true)
    (k_UnknownWorker : PySem.W.keepIn K (.ref f_UnknownWorker) = true)
    (ai_Unsteady : PySem.W.findIn K (.ref C_Unsteady) "__init__" = some (some (.ref f_Unsteady)))
    (ti_Unsteady : PySem.W.typeIn K (.ref f_Unsteady) = some (.type "function"))
    (l_Unsteady : K.lookup f_Unsteady = some ⟨oc_Unsteady, od_Unsteady, .func (PySem.W.fnOf "__init__" "Unsteady.__init__" (defArgs st_Unsteady) (defBody st_Unsteady) (defScope st_Unsteady) .none kV_Unsteady dc_Unsteady pm_Unsteady an_Unsteady cd_Unsteady ct_Unsteady), sl_Unsteady⟩)
    (c_Unsteady : PySem.W.codeIn K cd_Unsteady "Unsteady.__init__" = true)
    (k_Unsteady : PySem.W.keepIn K (.ref f_Unsteady) = true)
    (ai_NotReady : PySem.W.findIn K (.ref C_NotReady) "__init__" = some (some (.ref f_NotReady)))
    (ti_NotReady : PySem.W.typeIn K (.ref f_NotReady) = some (.type "function"))
    (l_NotReady : K.lookup f_NotReady = some ⟨oc_NotReady, od_NotReady, .func (PySem.W.fnOf "__init__" "NotReady.__init__" (defArgs st_NotReady) (defBody st_NotReady) (defScope st_NotReady) .none kV_NotReady dc_NotReady pm_NotReady an_NotReady cd_NotReady ct_NotReady), sl_NotReady⟩)
    (c_NotReady : PySem.W.codeIn K cd_NotReady "NotReady.__init__" = true)
    (k_NotReady : PySem.W.keepIn K (.ref f_NotReady) = true)
    (ai_NoMeaning : PySem.W.findIn K (.ref C_NoMeaning) "__init__" = some (some (.ref f_NoMeaning)))
    (ti_NoMeaning : PySem.W.typeIn K (.ref f_NoMeaning) = some (.type "function"))
    (l_NoMeaning : K.lookup f_NoMeaning = some ⟨oc_NoMeaning, od_NoMeaning, .func (PySem.W.fnOf "__init__" "NoMeaning.__init__" (defArgs st_NoMeaning) (defBody st_NoMeaning) (defScope st_NoMeaning) .none kV_NoMeaning dc_NoMeaning pm_NoMeaning an_NoMeaning cd_NoMeaning ct_NoMeaning), sl_NoMeaning⟩)
    (c_NoMeaning : PySem.W.codeIn K cd_NoMeaning "NoMeaning.__init__" = true)
    (k_NoMeaning : PySem.W.keepIn K (.ref f_NoMeaning) = true)
    (ai_Protected : PySem.W.findIn K (.ref C_Protected) "__init__" = some (some (.ref f_Protected)))
    (ti_Protected : PySem.W.typeIn K (.ref f_Protected) = some (.type "function"))
    (l_Protected : K.lookup f_Protected = some ⟨oc_Protected, od_Protected, .func (PySem.W.fnOf "__init__" "Protected.__init__" (defArgs st_Protected) (defBody st_Protected) (defScope st_Protected) .none kV_Protected dc_Protected pm_Protected an_Protected cd_Protected ct_Protected), sl_Protected⟩)
    (c_Protected : PySem.W.codeIn K cd_Protected "Protected.__init__" = true)
    (k_Protected : PySem.W.keepIn K (.ref f_Protected) = true)
    (ai_Missing : PySem.W.findIn K (.ref C_Missing) "__init__" = some (some (.ref f_Missing)))
    (ti_Missing : PySem.W.typeIn K (.ref f_Missing) = some (.type "function"))
    (l_Missing : K.lookup f_Missing = some ⟨oc_Missing, od_Missing, .func (PySem.W.fnOf "__init__" "Missing.__init__" (defArgs st_Missing) (defBody st_Missing) (defScope st_Missing) .none kV_Missing dc_Missing pm_Missing an_Missing cd_Missing ct_Missing), sl_Missing⟩)
    (c_Missing : PySem.W.codeIn K cd_Missing "Missing.__init__" = true)
    (k_Missing : PySem.W.keepIn K (.ref f_Missing) = true)
    (ai_Circular : PySem.W.findIn K (.ref C_Circular) "__init__" = some (some (.ref f_Circular)))
    (ti_Circular : PySem.W.typeIn K (.ref f_Circular) = some (.type "function"))
    (l_Circular : K.lookup f_Circular = some ⟨oc_Circular, od_Circular, .func (PySem.W.fnOf "__init__" "Circular.__init__" (defArgs st_Circular) (defBody st_Circular) (defScope st_Circular) .none kV_Circular dc_Circular pm_Circular an_Circular cd_Circular ct_Circular), sl_Circular⟩)
    (c_Circular : PySem.W.codeIn K cd_Circular "Circular.__init__" = true)
    (k_Circular : PySem.W.keepIn K (.ref f_Circular) = true)
    (ai_NameTaken : PySem.W.findIn K (.ref C_NameTaken) "__init__" = some (some (.ref f_NameTaken)))
    (ti_NameTaken : PySem.W.typeIn K (.ref f_NameTaken) = some (.type "function"))
    (l_NameTaken : K.lookup f_NameTaken = some ⟨oc_NameTaken, od_NameTaken, .func (PySem.W.fnOf "__init__" "NameTaken.__init__" (defArgs st_NameTaken) (defBody st_NameTaken) (defScope st_NameTaken) .none kV_NameTaken dc_NameTaken pm_NameTaken an_NameTaken cd_NameTaken ct_NameTaken), sl_NameTaken⟩)
    (c_NameTaken : PySem.W.codeIn K cd_NameTaken "NameTaken.__init__" = true)
    (k_NameTaken : PySem.W.keepIn K (.ref f_NameTaken) = true)
    (ai_CallTaken : PySem.W.findIn K (.ref C_CallTaken) "__init__" = some (some (.ref f_CallTaken)))
    (ti_CallTaken : PySem.W.typeIn K (.ref f_CallTaken) = some (.type "function"))
    (l_CallTaken : K.lookup f_CallTaken = some ⟨oc_CallTaken, od_CallTaken, .func (PySem.W.fnOf "__init__" "CallTaken.__init__" (defArgs st_CallTaken) (defBody st_CallTaken) (defScope st_CallTaken) .none kV_CallTaken dc_CallTaken pm_CallTaken an_CallTaken cd_CallTaken ct_CallTaken), sl_CallTaken⟩)
    (c_CallTaken : PySem.W.codeIn K cd_CallTaken "CallTaken.__init__" = true)
    (k_CallTaken : PySem.W.keepIn K (.ref f_CallTaken) = true)
    (ai_Busy : PySem.W.findIn K (.ref C_Busy) "__init__" = some (some (.ref f_Busy)))
    (ti_Busy : PySem.W.typeIn K (.ref f_Busy) = some (.type "function"))
    (l_Busy : K.lookup f_Busy = some ⟨oc_Busy, od_Busy, .func (PySem.W.fnOf "__init__" "Busy.__init__" (defArgs st_Busy) (defBody st_Busy) (defScope st_Busy) .none kV_Busy dc_Busy pm_Busy an_Busy cd_Busy ct_Busy), sl_Busy⟩)
    (c_Busy : PySem.W.codeIn K cd_Busy "Busy.__init__" = true)
    (k_Busy : PySem.W.keepIn K (.ref f_Busy) = true)
    (ai_Idle : PySem.W.findIn K (.ref C_Idle) "__init__" = some (some (.ref f_Idle)))
    (ti_Idle : PySem.W.typeIn K (.ref f_Idle) = some (.type "function"))
    (l_Idle : K.lookup f_Idle = some ⟨oc_Idle, od_Idle, .func (PySem.W.fnOf "__init__" "Idle.__init__" (defArgs st_Idle) (defBody st_Idle) (defScope st_Idle) .none kV_Idle dc_Idle pm_Idle an_Idle cd_Idle ct_Idle), sl_Idle⟩)
    (c_Idle : PySem.W.codeIn K cd_Idle "Idle.__init__" = true)
    (k_Idle : PySem.W.keepIn K (.ref f_Idle) = true)
    (ai_Turned : PySem.W.findIn K (.ref C_Turned) "__init__" = some (some (.ref f_Turned)))
    (ti_Turned : PySem.W.typeIn K (.ref f_Turned) = some (.type "function"))
    (l_Turned : K.lookup f_Turned = some ⟨oc_Turned, od_Turned, .func (PySem.W.fnOf "__init__" "Turned.__init__" (defArgs st_Turned) (defBody st_Turned) (defScope st_Turned) .none kV_Turned dc_Turned pm_Turned an_Turned cd_Turned ct_Turned), sl_Turned⟩)
    (c_Turned : PySem.W.codeIn K cd_Turned "Turned.__init__" = true)
    (k_Turned : PySem.W.keepIn K (.ref f_Turned) = true)
    (ai_NothingToUndo : PySem.W.findIn K (.ref C_NothingToUndo) "__init__" = some (some (.ref f_NothingToUndo)))
    (ti_NothingToUndo : PySem.W.typeIn K (.ref f_NothingToUndo) = some (.type "function"))
    (l_NothingToUndo : K.lookup f_NothingToUndo = some ⟨oc_NothingToUndo, od_NothingToUndo, .func (PySem.W.fnOf "__init__" "NothingToUndo.__init__" (defArgs st_NothingToUndo) (defBody st_NothingToUndo) (defScope st_NothingToUndo) .none kV_NothingToUndo dc_NothingToUndo pm_NothingToUndo an_NothingToUndo cd_NothingToUndo ct_NothingToUndo), sl_NothingToUndo⟩)
    (c_NothingToUndo : PySem.W.codeIn K cd_NothingToUndo "NothingToUndo.__init__" = true)
    (k_NothingToUndo : PySem.W.keepIn K (.ref f_NothingToUndo) = true)
    (ai_CommandFailed : PySem.W.findIn K (.ref C_CommandFailed) "__init__" = some (some (.ref f_CommandFailed)))
    (ti_CommandFailed : PySem.W.typeIn K (.ref f_CommandFailed) = some (.type "function"))
    (l_CommandFailed : K.lookup f_CommandFailed = some ⟨oc_CommandFailed, od_CommandFailed, .func (PySem.W.fnOf "__init__" "CommandFailed.__init__" (defArgs st_CommandFailed) (defBody st_CommandFailed) (defScope st_CommandFailed) .none kV_CommandFailed dc_CommandFailed pm_CommandFailed an_CommandFailed cd_CommandFailed ct_CommandFailed), sl_CommandFailed⟩)
    (c_CommandFailed : PySem.W.codeIn K cd_CommandFailed "CommandFailed.__init__" = true)
    (k_CommandFailed : PySem.W.keepIn K (.ref f_CommandFailed) = true)
    (ai_TooMany : PySem.W.findIn K (.ref C_TooMany) "__init__" = some (some (.ref f_TooMany)))
    (ti_TooMany : PySem.W.typeIn K (.ref f_TooMany) = some (.type "function"))
    (l_TooMany : K.lookup f_TooMany = some ⟨oc_TooMany, od_TooMany, .func (PySem.W.fnOf "__init__" "TooMany.__init__" (defArgs st_TooMany) (defBody st_TooMany) (defScope st_TooMany) .none kV_TooMany dc_TooMany pm_TooMany an_TooMany cd_TooMany ct_TooMany), sl_TooMany⟩)
    (c_TooMany : PySem.W.codeIn K cd_TooMany "TooMany.__init__" = true)
    (k_TooMany : PySem.W.keepIn K (.ref f_TooMany) = true)
    (a__law_rng : PySem.W.nsIn K mainGlobals "_law_rng" = some (some (.ref f__law_rng)))
    (l__law_rng : K.lookup f__law_rng = some ⟨oc__law_rng, od__law_rng, .func (PySem.W.fnOf "_law_rng" "_law_rng" (defArgs st__law_rng) (defBody st__law_rng) (defScope st__law_rng) .none kV__law_rng dc__law_rng pm__law_rng an__law_rng cd__law_rng ct__law_rng), sl__law_rng⟩)
    (c__law_rng : PySem.W.codeIn K cd__law_rng "_law_rng" = true)
    (k__law_rng : PySem.W.keepIn K (.ref f__law_rng) = true)
    (a__law_draw : PySem.W.nsIn K mainGlobals "_law_draw" = some (some (.ref f__law_draw)))
    (l__law_draw : K.lookup f__law_draw = some ⟨oc__law_draw, od__law_draw, .func (PySem.W.fnOf "_law_draw" "_law_draw" (defArgs st__law_draw) (defBody st__law_draw) (defScope st__law_draw) .none kV__law_draw dc__law_draw pm__law_draw an__law_draw cd__law_draw ct__law_draw), sl__law_draw⟩)
    (c__law_draw : PySem.W.codeIn K cd__law_draw "_law_draw" = true)
    (k__law_draw : PySem.W.keepIn K (.ref f__law_draw) = true)
    (a__law_choice : PySem.W.nsIn K mainGlobals "_law_choice" = some (some (.ref f__law_choice)))
    (l__law_choice : K.lookup f__law_choice = some ⟨oc__law_choice, od__law_choice, .func (PySem.W.fnOf "_law_choice" "_law_choice" (defArgs st__law_choice) (defBody st__law_choice) (defScope st__law_choice) .none kV__law_choice dc__law_choice pm__law_choice an__law_choice cd__law_choice ct__law_choice), sl__law_choice⟩)
    (c__law_choice : PySem.W.codeIn K cd__law_choice "_law_choice" = true)
    (k__law_choice : PySem.W.keepIn K (.ref f__law_choice) = true)
    (a__law_value : PySem.W.nsIn K mainGlobals "_law_value" = some (some (.ref f__law_value)))
    (l__law_value : K.lookup f__law_value = some ⟨oc__law_value, od__law_value, .func (PySem.W.fnOf "_law_value" "_law_value" (defArgs st__law_value) (defBody st__law_value) (defScope st__law_value) .none kV__law_value dc__law_value pm__law_value an__law_value cd__law_value ct__law_value), sl__law_value⟩)
    (c__law_value : PySem.W.codeIn K cd__law_value "_law_value" = true)
    (k__law_value : PySem.W.keepIn K (.ref f__law_value) = true)
    (a__law_bases : PySem.W.nsIn K mainGlobals "_law_bases" = some (some (.ref f__law_bases)))
    (l__law_bases : K.lookup f__law_bases = some ⟨oc__law_bases, od__law_bases, .func (PySem.W.fnOf "_law_bases" "_law_bases" (defArgs st__law_bases) (defBody st__law_bases) (defScope st__law_bases) .none kV__law_bases dc__law_bases pm__law_bases an__law_bases cd__law_bases ct__law_bases), sl__law_bases⟩)
    (c__law_bases : PySem.W.codeIn K cd__law_bases "_law_bases" = true)
    (k__law_bases : PySem.W.keepIn K (.ref f__law_bases) = true)
    (a__law_kinds : PySem.W.nsIn K mainGlobals "_law_kinds" = some (some (.ref f__law_kinds)))
    (l__law_kinds : K.lookup f__law_kinds = some ⟨oc__law_kinds, od__law_kinds, .func (PySem.W.fnOf "_law_kinds" "_law_kinds" (defArgs st__law_kinds) (defBody st__law_kinds) (defScope st__law_kinds) .none kV__law_kinds dc__law_kinds pm__law_kinds an__law_kinds cd__law_kinds ct__law_kinds), sl__law_kinds⟩)
    (c__law_kinds : PySem.W.codeIn K cd__law_kinds "_law_kinds" = true)
    (k__law_kinds : PySem.W.keepIn K (.ref f__law_kinds) = true)
    (a__law_ones_right : PySem.W.nsIn K mainGlobals "_law_ones_right" = some (some (.ref f__law_ones_right)))
    (l__law_ones_right : K.lookup f__law_ones_right = some ⟨oc__law_ones_right, od__law_ones_right, .func (PySem.W.fnOf "_law_ones_right" "_law_ones_right" (defArgs st__law_ones_right) (defBody st__law_ones_right) (defScope st__law_ones_right) .none kV__law_ones_right dc__law_ones_right pm__law_ones_right an__law_ones_right cd__law_ones_right ct__law_ones_right), sl__law_ones_right⟩)
    (c__law_ones_right : PySem.W.codeIn K cd__law_ones_right "_law_ones_right" = true)
    (k__law_ones_right : PySem.W.keepIn K (.ref f__law_ones_right) = true)
    (a__law_states_right : PySem.W.nsIn K mainGlobals "_law_states_right" = some (some (.ref f__law_states_right)))
    (l__law_states_right : K.lookup f__law_states_right = some ⟨oc__law_states_right, od__law_states_right, .func (PySem.W.fnOf "_law_states_right" "_law_states_right" (defArgs st__law_states_right) (defBody st__law_states_right) (defScope st__law_states_right) .none kV__law_states_right dc__law_states_right pm__law_states_right an__law_states_right cd__law_states_right ct__law_states_right), sl__law_states_right⟩)
    (c__law_states_right : PySem.W.codeIn K cd__law_states_right "_law_states_right" = true)
    (k__law_states_right : PySem.W.keepIn K (.ref f__law_states_right) = true)
    (a__law_pairs_right : PySem.W.nsIn K mainGlobals "_law_pairs_right" = some (some (.ref f__law_pairs_right)))
    (l__law_pairs_right : K.lookup f__law_pairs_right = some ⟨oc__law_pairs_right, od__law_pairs_right, .func (PySem.W.fnOf "_law_pairs_right" "_law_pairs_right" (defArgs st__law_pairs_right) (defBody st__law_pairs_right) (defScope st__law_pairs_right) .none kV__law_pairs_right dc__law_pairs_right pm__law_pairs_right an__law_pairs_right cd__law_pairs_right ct__law_pairs_right), sl__law_pairs_right⟩)
    (c__law_pairs_right : PySem.W.codeIn K cd__law_pairs_right "_law_pairs_right" = true)
    (k__law_pairs_right : PySem.W.keepIn K (.ref f__law_pairs_right) = true)
    (a__law_numbers_right : PySem.W.nsIn K mainGlobals "_law_numbers_right" = some (some (.ref f__law_numbers_right)))
    (l__law_numbers_right : K.lookup f__law_numbers_right = some ⟨oc__law_numbers_right, od__law_numbers_right, .func (PySem.W.fnOf "_law_numbers_right" "_law_numbers_right" (defArgs st__law_numbers_right) (defBody st__law_numbers_right) (defScope st__law_numbers_right) .none kV__law_numbers_right dc__law_numbers_right pm__law_numbers_right an__law_numbers_right cd__law_numbers_right ct__law_numbers_right), sl__law_numbers_right⟩)
    (c__law_numbers_right : PySem.W.codeIn K cd__law_numbers_right "_law_numbers_right" = true)
    (k__law_numbers_right : PySem.W.keepIn K (.ref f__law_numbers_right) = true)
    (a_law : PySem.W.nsIn K mainGlobals "law" = some (some (.ref f_law)))
    (l_law : K.lookup f_law = some ⟨oc_law, od_law, .func (PySem.W.fnOf "law" "law" (defArgs st_law) (defBody st_law) (defScope st_law) .none kV_law dc_law pm_law an_law cd_law ct_law), sl_law⟩)
    (c_law : PySem.W.codeIn K cd_law "law" = true)
    (k_law : PySem.W.keepIn K (.ref f_law) = true)
    (chk : (exAll K (fun i => ([C_MeantError, C_InvalidName, C_InvalidPath, C_InvalidArguments, C_InvalidProgram, C_InvalidOrder, C_InvalidChoices, C_InvalidPlace, C_InvalidFact, C_InvalidProtected, C_InvalidCount, C_InvalidText, C_InvalidCommand, C_UnknownPlace, C_UnknownModule, C_UnknownCall, C_UnknownFunction, C_UnknownWorker, C_Unsteady, C_NotReady, C_NoMeaning, C_Protected, C_Missing, C_Circular, C_NameTaken, C_CallTaken, C_Busy, C_Idle, C_Turned, C_NothingToUndo, C_CommandFailed, C_TooMany] : List Addr).getD i 0) 32 && (xfChk K (fun i => ([C_MeantError, C_InvalidName, C_InvalidPath, C_InvalidArguments, C_InvalidProgram, C_InvalidOrder, C_InvalidChoices, C_InvalidPlace, C_InvalidFact, C_InvalidProtected, C_InvalidCount, C_InvalidText, C_InvalidCommand, C_UnknownPlace, C_UnknownModule, C_UnknownCall, C_UnknownFunction, C_UnknownWorker, C_Unsteady, C_NotReady, C_NoMeaning, C_Protected, C_Missing, C_Circular, C_NameTaken, C_CallTaken, C_Busy, C_Idle, C_Turned, C_NothingToUndo, C_CommandFailed, C_TooMany] : List Addr).getD i 0) cs_certificate "certificate" && (xfChk K (fun i => ([C_MeantError, C_InvalidName, C_InvalidPath, C_InvalidArguments, C_InvalidProgram, C_InvalidOrder, C_InvalidChoices, C_InvalidPlace, C_InvalidFact, C_InvalidProtected, C_InvalidCount, C_InvalidText, C_InvalidCommand, C_UnknownPlace, C_UnknownModule, C_UnknownCall, C_UnknownFunction, C_UnknownWorker, C_Unsteady, C_NotReady, C_NoMeaning, C_Protected, C_Missing, C_Circular, C_NameTaken, C_CallTaken, C_Busy, C_Idle, C_Turned, C_NothingToUndo, C_CommandFailed, C_TooMany] : List Addr).getD i 0) cs_count "count" && (xfChk K (fun i => ([C_MeantError, C_InvalidName, C_InvalidPath, C_InvalidArguments, C_InvalidProgram, C_InvalidOrder, C_InvalidChoices, C_InvalidPlace, C_InvalidFact, C_InvalidProtected, C_InvalidCount, C_InvalidText, C_InvalidCommand, C_UnknownPlace, C_UnknownModule, C_UnknownCall, C_UnknownFunction, C_UnknownWorker, C_Unsteady, C_NotReady, C_NoMeaning, C_Protected, C_Missing, C_Circular, C_NameTaken, C_CallTaken, C_Busy, C_Idle, C_Turned, C_NothingToUndo, C_CommandFailed, C_TooMany] : List Addr).getD i 0) cs_kind "kind" && (xfChk K (fun i => ([C_MeantError, C_InvalidName, C_InvalidPath, C_InvalidArguments, C_InvalidProgram, C_InvalidOrder, C_InvalidChoices, C_InvalidPlace, C_InvalidFact, C_InvalidProtected, C_InvalidCount, C_InvalidText, C_InvalidCommand, C_UnknownPlace, C_UnknownModule, C_UnknownCall, C_UnknownFunction, C_UnknownWorker, C_Unsteady, C_NotReady, C_NoMeaning, C_Protected, C_Missing, C_Circular, C_NameTaken, C_CallTaken, C_Busy, C_Idle, C_Turned, C_NothingToUndo, C_CommandFailed, C_TooMany] : List Addr).getD i 0) cs_limit "limit" && (xfChk K (fun i => ([C_MeantError, C_InvalidName, C_InvalidPath, C_InvalidArguments, C_InvalidProgram, C_InvalidOrder, C_InvalidChoices, C_InvalidPlace, C_InvalidFact, C_InvalidProtected, C_InvalidCount, C_InvalidText, C_InvalidCommand, C_UnknownPlace, C_UnknownModule, C_UnknownCall, C_UnknownFunction, C_UnknownWorker, C_Unsteady, C_NotReady, C_NoMeaning, C_Protected, C_Missing, C_Circular, C_NameTaken, C_CallTaken, C_Busy, C_Idle, C_Turned, C_NothingToUndo, C_CommandFailed, C_TooMany] : List Addr).getD i 0) cs_line "line" && (xfChk K (fun i => ([C_MeantError, C_InvalidName, C_InvalidPath, C_InvalidArguments, C_InvalidProgram, C_InvalidOrder, C_InvalidChoices, C_InvalidPlace, C_InvalidFact, C_InvalidProtected, C_InvalidCount, C_InvalidText, C_InvalidCommand, C_UnknownPlace, C_UnknownModule, C_UnknownCall, C_UnknownFunction, C_UnknownWorker, C_Unsteady, C_NotReady, C_NoMeaning, C_Protected, C_Missing, C_Circular, C_NameTaken, C_CallTaken, C_Busy, C_Idle, C_Turned, C_NothingToUndo, C_CommandFailed, C_TooMany] : List Addr).getD i 0) cs_module "module" && (xfChk K (fun i => ([C_MeantError, C_InvalidName, C_InvalidPath, C_InvalidArguments, C_InvalidProgram, C_InvalidOrder, C_InvalidChoices, C_InvalidPlace, C_InvalidFact, C_InvalidProtected, C_InvalidCount, C_InvalidText, C_InvalidCommand, C_UnknownPlace, C_UnknownModule, C_UnknownCall, C_UnknownFunction, C_UnknownWorker, C_Unsteady, C_NotReady, C_NoMeaning, C_Protected, C_Missing, C_Circular, C_NameTaken, C_CallTaken, C_Busy, C_Idle, C_Turned, C_NothingToUndo, C_CommandFailed, C_TooMany] : List Addr).getD i 0) cs_name "name" && (xfChk K (fun i => ([C_MeantError, C_InvalidName, C_InvalidPath, C_InvalidArguments, C_InvalidProgram, C_InvalidOrder, C_InvalidChoices, C_InvalidPlace, C_InvalidFact, C_InvalidProtected, C_InvalidCount, C_InvalidText, C_InvalidCommand, C_UnknownPlace, C_UnknownModule, C_UnknownCall, C_UnknownFunction, C_UnknownWorker, C_Unsteady, C_NotReady, C_NoMeaning, C_Protected, C_Missing, C_Circular, C_NameTaken, C_CallTaken, C_Busy, C_Idle, C_Turned, C_NothingToUndo, C_CommandFailed, C_TooMany] : List Addr).getD i 0) cs_path "path" && (xfChk K (fun i => ([C_MeantError, C_InvalidName, C_InvalidPath, C_InvalidArguments, C_InvalidProgram, C_InvalidOrder, C_InvalidChoices, C_InvalidPlace, C_InvalidFact, C_InvalidProtected, C_InvalidCount, C_InvalidText, C_InvalidCommand, C_UnknownPlace, C_UnknownModule, C_UnknownCall, C_UnknownFunction, C_UnknownWorker, C_Unsteady, C_NotReady, C_NoMeaning, C_Protected, C_Missing, C_Circular, C_NameTaken, C_CallTaken, C_Busy, C_Idle, C_Turned, C_NothingToUndo, C_CommandFailed, C_TooMany] : List Addr).getD i 0) cs_place "place" && (xfChk K (fun i => ([C_MeantError, C_InvalidName, C_InvalidPath, C_InvalidArguments, C_InvalidProgram, C_InvalidOrder, C_InvalidChoices, C_InvalidPlace, C_InvalidFact, C_InvalidProtected, C_InvalidCount, C_InvalidText, C_InvalidCommand, C_UnknownPlace, C_UnknownModule, C_UnknownCall, C_UnknownFunction, C_UnknownWorker, C_Unsteady, C_NotReady, C_NoMeaning, C_Protected, C_Missing, C_Circular, C_NameTaken, C_CallTaken, C_Busy, C_Idle, C_Turned, C_NothingToUndo, C_CommandFailed, C_TooMany] : List Addr).getD i 0) cs_position "position" && (xfChk K (fun i => ([C_MeantError, C_InvalidName, C_InvalidPath, C_InvalidArguments, C_InvalidProgram, C_InvalidOrder, C_InvalidChoices, C_InvalidPlace, C_InvalidFact, C_InvalidProtected, C_InvalidCount, C_InvalidText, C_InvalidCommand, C_UnknownPlace, C_UnknownModule, C_UnknownCall, C_UnknownFunction, C_UnknownWorker, C_Unsteady, C_NotReady, C_NoMeaning, C_Protected, C_Missing, C_Circular, C_NameTaken, C_CallTaken, C_Busy, C_Idle, C_Turned, C_NothingToUndo, C_CommandFailed, C_TooMany] : List Addr).getD i 0) cs_problem "problem" && (xfChk K (fun i => ([C_MeantError, C_InvalidName, C_InvalidPath, C_InvalidArguments, C_InvalidProgram, C_InvalidOrder, C_InvalidChoices, C_InvalidPlace, C_InvalidFact, C_InvalidProtected, C_InvalidCount, C_InvalidText, C_InvalidCommand, C_UnknownPlace, C_UnknownModule, C_UnknownCall, C_UnknownFunction, C_UnknownWorker, C_Unsteady, C_NotReady, C_NoMeaning, C_Protected, C_Missing, C_Circular, C_NameTaken, C_CallTaken, C_Busy, C_Idle, C_Turned, C_NothingToUndo, C_CommandFailed, C_TooMany] : List Addr).getD i 0) cs_results "results" && (xfChk K (fun i => ([C_MeantError, C_InvalidName, C_InvalidPath, C_InvalidArguments, C_InvalidProgram, C_InvalidOrder, C_InvalidChoices, C_InvalidPlace, C_InvalidFact, C_InvalidProtected, C_InvalidCount, C_InvalidText, C_InvalidCommand, C_UnknownPlace, C_UnknownModule, C_UnknownCall, C_UnknownFunction, C_UnknownWorker, C_Unsteady, C_NotReady, C_NoMeaning, C_Protected, C_Missing, C_Circular, C_NameTaken, C_CallTaken, C_Busy, C_Idle, C_Turned, C_NothingToUndo, C_CommandFailed, C_TooMany] : List Addr).getD i 0) cs_value "value" && (xfChk K (fun i => ([C_MeantError, C_InvalidName, C_InvalidPath, C_InvalidArguments, C_InvalidProgram, C_InvalidOrder, C_InvalidChoices, C_InvalidPlace, C_InvalidFact, C_InvalidProtected, C_InvalidCount, C_InvalidText, C_InvalidCommand, C_UnknownPlace, C_UnknownModule, C_UnknownCall, C_UnknownFunction, C_UnknownWorker, C_Unsteady, C_NotReady, C_NoMeaning, C_Protected, C_Missing, C_Circular, C_NameTaken, C_CallTaken, C_Busy, C_Idle, C_Turned, C_NothingToUndo, C_CommandFailed, C_TooMany] : List Addr).getD i 0) cs_worker "worker" && (isChk K (fun i => ([C_MeantError, C_InvalidName, C_InvalidPath, C_InvalidArguments, C_InvalidProgram, C_InvalidOrder, C_InvalidChoices, C_InvalidPlace, C_InvalidFact, C_InvalidProtected, C_InvalidCount, C_InvalidText, C_InvalidCommand, C_UnknownPlace, C_UnknownModule, C_UnknownCall, C_UnknownFunction, C_UnknownWorker, C_Unsteady, C_NotReady, C_NoMeaning, C_Protected, C_Missing, C_Circular, C_NameTaken, C_CallTaken, C_Busy, C_Idle, C_Turned, C_NothingToUndo, C_CommandFailed, C_TooMany] : List Addr).getD i 0) (.type "LookupError") tb_LookupError && (isChk K (fun i => ([C_MeantError, C_InvalidName, C_InvalidPath, C_InvalidArguments, C_InvalidProgram, C_InvalidOrder, C_InvalidChoices, C_InvalidPlace, C_InvalidFact, C_InvalidProtected, C_InvalidCount, C_InvalidText, C_InvalidCommand, C_UnknownPlace, C_UnknownModule, C_UnknownCall, C_UnknownFunction, C_UnknownWorker, C_Unsteady, C_NotReady, C_NoMeaning, C_Protected, C_Missing, C_Circular, C_NameTaken, C_CallTaken, C_Busy, C_Idle, C_Turned, C_NothingToUndo, C_CommandFailed, C_TooMany] : List Addr).getD i 0) (.type "ValueError") tb_ValueError && (isChk K (fun i => ([C_MeantError, C_InvalidName, C_InvalidPath, C_InvalidArguments, C_InvalidProgram, C_InvalidOrder, C_InvalidChoices, C_InvalidPlace, C_InvalidFact, C_InvalidProtected, C_InvalidCount, C_InvalidText, C_InvalidCommand, C_UnknownPlace, C_UnknownModule, C_UnknownCall, C_UnknownFunction, C_UnknownWorker, C_Unsteady, C_NotReady, C_NoMeaning, C_Protected, C_Missing, C_Circular, C_NameTaken, C_CallTaken, C_Busy, C_Idle, C_Turned, C_NothingToUndo, C_CommandFailed, C_TooMany] : List Addr).getD i 0) (.ref C_MeantError) tb_MeantError && (isChk K (fun i => ([C_MeantError, C_InvalidName, C_InvalidPath, C_InvalidArguments, C_InvalidProgram, C_InvalidOrder, C_InvalidChoices, C_InvalidPlace, C_InvalidFact, C_InvalidProtected, C_InvalidCount, C_InvalidText, C_InvalidCommand, C_UnknownPlace, C_UnknownModule, C_UnknownCall, C_UnknownFunction, C_UnknownWorker, C_Unsteady, C_NotReady, C_NoMeaning, C_Protected, C_Missing, C_Circular, C_NameTaken, C_CallTaken, C_Busy, C_Idle, C_Turned, C_NothingToUndo, C_CommandFailed, C_TooMany] : List Addr).getD i 0) (.type "Exception") tb_Exception && (isChk K (fun i => ([C_MeantError, C_InvalidName, C_InvalidPath, C_InvalidArguments, C_InvalidProgram, C_InvalidOrder, C_InvalidChoices, C_InvalidPlace, C_InvalidFact, C_InvalidProtected, C_InvalidCount, C_InvalidText, C_InvalidCommand, C_UnknownPlace, C_UnknownModule, C_UnknownCall, C_UnknownFunction, C_UnknownWorker, C_Unsteady, C_NotReady, C_NoMeaning, C_Protected, C_Missing, C_Circular, C_NameTaken, C_CallTaken, C_Busy, C_Idle, C_Turned, C_NothingToUndo, C_CommandFailed, C_TooMany] : List Addr).getD i 0) (.type "ArithmeticError") tb_ArithmeticError && (isChk K (fun i => ([C_MeantError, C_InvalidName, C_InvalidPath, C_InvalidArguments, C_InvalidProgram, C_InvalidOrder, C_InvalidChoices, C_InvalidPlace, C_InvalidFact, C_InvalidProtected, C_InvalidCount, C_InvalidText, C_InvalidCommand, C_UnknownPlace, C_UnknownModule, C_UnknownCall, C_UnknownFunction, C_UnknownWorker, C_Unsteady, C_NotReady, C_NoMeaning, C_Protected, C_Missing, C_Circular, C_NameTaken, C_CallTaken, C_Busy, C_Idle, C_Turned, C_NothingToUndo, C_CommandFailed, C_TooMany] : List Addr).getD i 0) (.type "RuntimeError") tb_RuntimeError && (isChk K (fun i => ([C_MeantError, C_InvalidName, C_InvalidPath, C_InvalidArguments, C_InvalidProgram, C_InvalidOrder, C_InvalidChoices, C_InvalidPlace, C_InvalidFact, C_InvalidProtected, C_InvalidCount, C_InvalidText, C_InvalidCommand, C_UnknownPlace, C_UnknownModule, C_UnknownCall, C_UnknownFunction, C_UnknownWorker, C_Unsteady, C_NotReady, C_NoMeaning, C_Protected, C_Missing, C_Circular, C_NameTaken, C_CallTaken, C_Busy, C_Idle, C_Turned, C_NothingToUndo, C_CommandFailed, C_TooMany] : List Addr).getD i 0) (.ref C_InvalidArguments) tb_InvalidArguments && (isChk K (fun i => ([C_MeantError, C_InvalidName, C_InvalidPath, C_InvalidArguments, C_InvalidProgram, C_InvalidOrder, C_InvalidChoices, C_InvalidPlace, C_InvalidFact, C_InvalidProtected, C_InvalidCount, C_InvalidText, C_InvalidCommand, C_UnknownPlace, C_UnknownModule, C_UnknownCall, C_UnknownFunction, C_UnknownWorker, C_Unsteady, C_NotReady, C_NoMeaning, C_Protected, C_Missing, C_Circular, C_NameTaken, C_CallTaken, C_Busy, C_Idle, C_Turned, C_NothingToUndo, C_CommandFailed, C_TooMany] : List Addr).getD i 0) (.ref C_InvalidPath) tb_InvalidPath && (isChk K (fun i => ([C_MeantError, C_InvalidName, C_InvalidPath, C_InvalidArguments, C_InvalidProgram, C_InvalidOrder, C_InvalidChoices, C_InvalidPlace, C_InvalidFact, C_InvalidProtected, C_InvalidCount, C_InvalidText, C_InvalidCommand, C_UnknownPlace, C_UnknownModule, C_UnknownCall, C_UnknownFunction, C_UnknownWorker, C_Unsteady, C_NotReady, C_NoMeaning, C_Protected, C_Missing, C_Circular, C_NameTaken, C_CallTaken, C_Busy, C_Idle, C_Turned, C_NothingToUndo, C_CommandFailed, C_TooMany] : List Addr).getD i 0) (.ref C_InvalidName) tb_InvalidName && (isChk K (fun i => ([C_MeantError, C_InvalidName, C_InvalidPath, C_InvalidArguments, C_InvalidProgram, C_InvalidOrder, C_InvalidChoices, C_InvalidPlace, C_InvalidFact, C_InvalidProtected, C_InvalidCount, C_InvalidText, C_InvalidCommand, C_UnknownPlace, C_UnknownModule, C_UnknownCall, C_UnknownFunction, C_UnknownWorker, C_Unsteady, C_NotReady, C_NoMeaning, C_Protected, C_Missing, C_Circular, C_NameTaken, C_CallTaken, C_Busy, C_Idle, C_Turned, C_NothingToUndo, C_CommandFailed, C_TooMany] : List Addr).getD i 0) (.ref C_InvalidChoices) tb_InvalidChoices && (isChk K (fun i => ([C_MeantError, C_InvalidName, C_InvalidPath, C_InvalidArguments, C_InvalidProgram, C_InvalidOrder, C_InvalidChoices, C_InvalidPlace, C_InvalidFact, C_InvalidProtected, C_InvalidCount, C_InvalidText, C_InvalidCommand, C_UnknownPlace, C_UnknownModule, C_UnknownCall, C_UnknownFunction, C_UnknownWorker, C_Unsteady, C_NotReady, C_NoMeaning, C_Protected, C_Missing, C_Circular, C_NameTaken, C_CallTaken, C_Busy, C_Idle, C_Turned, C_NothingToUndo, C_CommandFailed, C_TooMany] : List Addr).getD i 0) (.ref C_InvalidOrder) tb_InvalidOrder && (isChk K (fun i => ([C_MeantError, C_InvalidName, C_InvalidPath, C_InvalidArguments, C_InvalidProgram, C_InvalidOrder, C_InvalidChoices, C_InvalidPlace, C_InvalidFact, C_InvalidProtected, C_InvalidCount, C_InvalidText, C_InvalidCommand, C_UnknownPlace, C_UnknownModule, C_UnknownCall, C_UnknownFunction, C_UnknownWorker, C_Unsteady, C_NotReady, C_NoMeaning, C_Protected, C_Missing, C_Circular, C_NameTaken, C_CallTaken, C_Busy, C_Idle, C_Turned, C_NothingToUndo, C_CommandFailed, C_TooMany] : List Addr).getD i 0) (.ref C_InvalidProgram) tb_InvalidProgram && (isChk K (fun i => ([C_MeantError, C_InvalidName, C_InvalidPath, C_InvalidArguments, C_InvalidProgram, C_InvalidOrder, C_InvalidChoices, C_InvalidPlace, C_InvalidFact, C_InvalidProtected, C_InvalidCount, C_InvalidText, C_InvalidCommand, C_UnknownPlace, C_UnknownModule, C_UnknownCall, C_UnknownFunction, C_UnknownWorker, C_Unsteady, C_NotReady, C_NoMeaning, C_Protected, C_Missing, C_Circular, C_NameTaken, C_CallTaken, C_Busy, C_Idle, C_Turned, C_NothingToUndo, C_CommandFailed, C_TooMany] : List Addr).getD i 0) (.ref C_InvalidProtected) tb_InvalidProtected && (isChk K (fun i => ([C_MeantError, C_InvalidName, C_InvalidPath, C_InvalidArguments, C_InvalidProgram, C_InvalidOrder, C_InvalidChoices, C_InvalidPlace, C_InvalidFact, C_InvalidProtected, C_InvalidCount, C_InvalidText, C_InvalidCommand, C_UnknownPlace, C_UnknownModule, C_UnknownCall, C_UnknownFunction, C_UnknownWorker, C_Unsteady, C_NotReady, C_NoMeaning, C_Protected, C_Missing, C_Circular, C_NameTaken, C_CallTaken, C_Busy, C_Idle, C_Turned, C_NothingToUndo, C_CommandFailed, C_TooMany] : List Addr).getD i 0) (.ref C_InvalidFact) tb_InvalidFact && (isChk K (fun i => ([C_MeantError, C_InvalidName, C_InvalidPath, C_InvalidArguments, C_InvalidProgram, C_InvalidOrder, C_InvalidChoices, C_InvalidPlace, C_InvalidFact, C_InvalidProtected, C_InvalidCount, C_InvalidText, C_InvalidCommand, C_UnknownPlace, C_UnknownModule, C_UnknownCall, C_UnknownFunction, C_UnknownWorker, C_Unsteady, C_NotReady, C_NoMeaning, C_Protected, C_Missing, C_Circular, C_NameTaken, C_CallTaken, C_Busy, C_Idle, C_Turned, C_NothingToUndo, C_CommandFailed, C_TooMany] : List Addr).getD i 0) (.ref C_InvalidPlace) tb_InvalidPlace && (isChk K (fun i => ([C_MeantError, C_InvalidName, C_InvalidPath, C_InvalidArguments, C_InvalidProgram, C_InvalidOrder, C_InvalidChoices, C_InvalidPlace, C_InvalidFact, C_InvalidProtected, C_InvalidCount, C_InvalidText, C_InvalidCommand, C_UnknownPlace, C_UnknownModule, C_UnknownCall, C_UnknownFunction, C_UnknownWorker, C_Unsteady, C_NotReady, C_NoMeaning, C_Protected, C_Missing, C_Circular, C_NameTaken, C_CallTaken, C_Busy, C_Idle, C_Turned, C_NothingToUndo, C_CommandFailed, C_TooMany] : List Addr).getD i 0) (.ref C_InvalidCommand) tb_InvalidCommand && (isChk K (fun i => ([C_MeantError, C_InvalidName, C_InvalidPath, C_InvalidArguments, C_InvalidProgram, C_InvalidOrder, C_InvalidChoices, C_InvalidPlace, C_InvalidFact, C_InvalidProtected, C_InvalidCount, C_InvalidText, C_InvalidCommand, C_UnknownPlace, C_UnknownModule, C_UnknownCall, C_UnknownFunction, C_UnknownWorker, C_Unsteady, C_NotReady, C_NoMeaning, C_Protected, C_Missing, C_Circular, C_NameTaken, C_CallTaken, C_Busy, C_Idle, C_Turned, C_NothingToUndo, C_CommandFailed, C_TooMany] : List Addr).getD i 0) (.ref C_InvalidText) tb_InvalidText && (isChk K (fun i => ([C_MeantError, C_InvalidName, C_InvalidPath, C_InvalidArguments, C_InvalidProgram, C_InvalidOrder, C_InvalidChoices, C_InvalidPlace, C_InvalidFact, C_InvalidProtected, C_InvalidCount, C_InvalidText, C_InvalidCommand, C_UnknownPlace, C_UnknownModule, C_UnknownCall, C_UnknownFunction, C_UnknownWorker, C_Unsteady, C_NotReady, C_NoMeaning, C_Protected, C_Missing, C_Circular, C_NameTaken, C_CallTaken, C_Busy, C_Idle, C_Turned, C_NothingToUndo, C_CommandFailed, C_TooMany] : List Addr).getD i 0) (.ref C_InvalidCount) tb_InvalidCount && (isChk K (fun i => ([C_MeantError, C_InvalidName, C_InvalidPath, C_InvalidArguments, C_InvalidProgram, C_InvalidOrder, C_InvalidChoices, C_InvalidPlace, C_InvalidFact, C_InvalidProtected, C_InvalidCount, C_InvalidText, C_InvalidCommand, C_UnknownPlace, C_UnknownModule, C_UnknownCall, C_UnknownFunction, C_UnknownWorker, C_Unsteady, C_NotReady, C_NoMeaning, C_Protected, C_Missing, C_Circular, C_NameTaken, C_CallTaken, C_Busy, C_Idle, C_Turned, C_NothingToUndo, C_CommandFailed, C_TooMany] : List Addr).getD i 0) (.ref C_UnknownCall) tb_UnknownCall && (isChk K (fun i => ([C_MeantError, C_InvalidName, C_InvalidPath, C_InvalidArguments, C_InvalidProgram, C_InvalidOrder, C_InvalidChoices, C_InvalidPlace, C_InvalidFact, C_InvalidProtected, C_InvalidCount, C_InvalidText, C_InvalidCommand, C_UnknownPlace, C_UnknownModule, C_UnknownCall, C_UnknownFunction, C_UnknownWorker, C_Unsteady, C_NotReady, C_NoMeaning, C_Protected, C_Missing, C_Circular, C_NameTaken, C_CallTaken, C_Busy, C_Idle, C_Turned, C_NothingToUndo, C_CommandFailed, C_TooMany] : List Addr).getD i 0) (.ref C_UnknownModule) tb_UnknownModule && (isChk K (fun i => ([C_MeantError, C_InvalidName, C_InvalidPath, C_InvalidArguments, C_InvalidProgram, C_InvalidOrder, C_InvalidChoices, C_InvalidPlace, C_InvalidFact, C_InvalidProtected, C_InvalidCount, C_InvalidText, C_InvalidCommand, C_UnknownPlace, C_UnknownModule, C_UnknownCall, C_UnknownFunction, C_UnknownWorker, C_Unsteady, C_NotReady, C_NoMeaning, C_Protected, C_Missing, C_Circular, C_NameTaken, C_CallTaken, C_Busy, C_Idle, C_Turned, C_NothingToUndo, C_CommandFailed, C_TooMany] : List Addr).getD i 0) (.ref C_UnknownPlace) tb_UnknownPlace && (isChk K (fun i => ([C_MeantError, C_InvalidName, C_InvalidPath, C_InvalidArguments, C_InvalidProgram, C_InvalidOrder, C_InvalidChoices, C_InvalidPlace, C_InvalidFact, C_InvalidProtected, C_InvalidCount, C_InvalidText, C_InvalidCommand, C_UnknownPlace, C_UnknownModule, C_UnknownCall, C_UnknownFunction, C_UnknownWorker, C_Unsteady, C_NotReady, C_NoMeaning, C_Protected, C_Missing, C_Circular, C_NameTaken, C_CallTaken, C_Busy, C_Idle, C_Turned, C_NothingToUndo, C_CommandFailed, C_TooMany] : List Addr).getD i 0) (.ref C_Unsteady) tb_Unsteady && (isChk K (fun i => ([C_MeantError, C_InvalidName, C_InvalidPath, C_InvalidArguments, C_InvalidProgram, C_InvalidOrder, C_InvalidChoices, C_InvalidPlace, C_InvalidFact, C_InvalidProtected, C_InvalidCount, C_InvalidText, C_InvalidCommand, C_UnknownPlace, C_UnknownModule, C_UnknownCall, C_UnknownFunction, C_UnknownWorker, C_Unsteady, C_NotReady, C_NoMeaning, C_Protected, C_Missing, C_Circular, C_NameTaken, C_CallTaken, C_Busy, C_Idle, C_Turned, C_NothingToUndo, C_CommandFailed, C_TooMany] : List Addr).getD i 0) (.ref C_UnknownWorker) tb_UnknownWorker && (isChk K (fun i => ([C_MeantError, C_InvalidName, C_InvalidPath, C_InvalidArguments, C_InvalidProgram, C_InvalidOrder, C_InvalidChoices, C_InvalidPlace, C_InvalidFact, C_InvalidProtected, C_InvalidCount, C_InvalidText, C_InvalidCommand, C_UnknownPlace, C_UnknownModule, C_UnknownCall, C_UnknownFunction, C_UnknownWorker, C_Unsteady, C_NotReady, C_NoMeaning, C_Protected, C_Missing, C_Circular, C_NameTaken, C_CallTaken, C_Busy, C_Idle, C_Turned, C_NothingToUndo, C_CommandFailed, C_TooMany] : List Addr).getD i 0) (.ref C_UnknownFunction) tb_UnknownFunction && (isChk K (fun i => ([C_MeantError, C_InvalidName, C_InvalidPath, C_InvalidArguments, C_InvalidProgram, C_InvalidOrder, C_InvalidChoices, C_InvalidPlace, C_InvalidFact, C_InvalidProtected, C_InvalidCount, C_InvalidText, C_InvalidCommand, C_UnknownPlace, C_UnknownModule, C_UnknownCall, C_UnknownFunction, C_UnknownWorker, C_Unsteady, C_NotReady, C_NoMeaning, C_Protected, C_Missing, C_Circular, C_NameTaken, C_CallTaken, C_Busy, C_Idle, C_Turned, C_NothingToUndo, C_CommandFailed, C_TooMany] : List Addr).getD i 0) (.ref C_Protected) tb_Protected && (isChk K (fun i => ([C_MeantError, C_InvalidName, C_InvalidPath, C_InvalidArguments, C_InvalidProgram, C_InvalidOrder, C_InvalidChoices, C_InvalidPlace, C_InvalidFact, C_InvalidProtected, C_InvalidCount, C_InvalidText, C_InvalidCommand, C_UnknownPlace, C_UnknownModule, C_UnknownCall, C_UnknownFunction, C_UnknownWorker, C_Unsteady, C_NotReady, C_NoMeaning, C_Protected, C_Missing, C_Circular, C_NameTaken, C_CallTaken, C_Busy, C_Idle, C_Turned, C_NothingToUndo, C_CommandFailed, C_TooMany] : List Addr).getD i 0) (.ref C_NoMeaning) tb_NoMeaning && (isChk K (fun i => ([C_MeantError, C_InvalidName, C_InvalidPath, C_InvalidArguments, C_InvalidProgram, C_InvalidOrder, C_InvalidChoices, C_InvalidPlace, C_InvalidFact, C_InvalidProtected, C_InvalidCount, C_InvalidText, C_InvalidCommand, C_UnknownPlace, C_UnknownModule, C_UnknownCall, C_UnknownFunction, C_UnknownWorker, C_Unsteady, C_NotReady, C_NoMeaning, C_Protected, C_Missing, C_Circular, C_NameTaken, C_CallTaken, C_Busy, C_Idle, C_Turned, C_NothingToUndo, C_CommandFailed, C_TooMany] : List Addr).getD i 0) (.ref C_NotReady) tb_NotReady && (isChk K (fun i => ([C_MeantError, C_InvalidName, C_InvalidPath, C_InvalidArguments, C_InvalidProgram, C_InvalidOrder, C_InvalidChoices, C_InvalidPlace, C_InvalidFact, C_InvalidProtected, C_InvalidCount, C_InvalidText, C_InvalidCommand, C_UnknownPlace, C_UnknownModule, C_UnknownCall, C_UnknownFunction, C_UnknownWorker, C_Unsteady, C_NotReady, C_NoMeaning, C_Protected, C_Missing, C_Circular, C_NameTaken, C_CallTaken, C_Busy, C_Idle, C_Turned, C_NothingToUndo, C_CommandFailed, C_TooMany] : List Addr).getD i 0) (.ref C_NameTaken) tb_NameTaken && (isChk K (fun i => ([C_MeantError, C_InvalidName, C_InvalidPath, C_InvalidArguments, C_InvalidProgram, C_InvalidOrder, C_InvalidChoices, C_InvalidPlace, C_InvalidFact, C_InvalidProtected, C_InvalidCount, C_InvalidText, C_InvalidCommand, C_UnknownPlace, C_UnknownModule, C_UnknownCall, C_UnknownFunction, C_UnknownWorker, C_Unsteady, C_NotReady, C_NoMeaning, C_Protected, C_Missing, C_Circular, C_NameTaken, C_CallTaken, C_Busy, C_Idle, C_Turned, C_NothingToUndo, C_CommandFailed, C_TooMany] : List Addr).getD i 0) (.ref C_Circular) tb_Circular && (isChk K (fun i => ([C_MeantError, C_InvalidName, C_InvalidPath, C_InvalidArguments, C_InvalidProgram, C_InvalidOrder, C_InvalidChoices, C_InvalidPlace, C_InvalidFact, C_InvalidProtected, C_InvalidCount, C_InvalidText, C_InvalidCommand, C_UnknownPlace, C_UnknownModule, C_UnknownCall, C_UnknownFunction, C_UnknownWorker, C_Unsteady, C_NotReady, C_NoMeaning, C_Protected, C_Missing, C_Circular, C_NameTaken, C_CallTaken, C_Busy, C_Idle, C_Turned, C_NothingToUndo, C_CommandFailed, C_TooMany] : List Addr).getD i 0) (.ref C_Missing) tb_Missing && (isChk K (fun i => ([C_MeantError, C_InvalidName, C_InvalidPath, C_InvalidArguments, C_InvalidProgram, C_InvalidOrder, C_InvalidChoices, C_InvalidPlace, C_InvalidFact, C_InvalidProtected, C_InvalidCount, C_InvalidText, C_InvalidCommand, C_UnknownPlace, C_UnknownModule, C_UnknownCall, C_UnknownFunction, C_UnknownWorker, C_Unsteady, C_NotReady, C_NoMeaning, C_Protected, C_Missing, C_Circular, C_NameTaken, C_CallTaken, C_Busy, C_Idle, C_Turned, C_NothingToUndo, C_CommandFailed, C_TooMany] : List Addr).getD i 0) (.ref C_Idle) tb_Idle && (isChk K (fun i => ([C_MeantError, C_InvalidName, C_InvalidPath, C_InvalidArguments, C_InvalidProgram, C_InvalidOrder, C_InvalidChoices, C_InvalidPlace, C_InvalidFact, C_InvalidProtected, C_InvalidCount, C_InvalidText, C_InvalidCommand, C_UnknownPlace, C_UnknownModule, C_UnknownCall, C_UnknownFunction, C_UnknownWorker, C_Unsteady, C_NotReady, C_NoMeaning, C_Protected, C_Missing, C_Circular, C_NameTaken, C_CallTaken, C_Busy, C_Idle, C_Turned, C_NothingToUndo, C_CommandFailed, C_TooMany] : List Addr).getD i 0) (.ref C_Busy) tb_Busy && (isChk K (fun i => ([C_MeantError, C_InvalidName, C_InvalidPath, C_InvalidArguments, C_InvalidProgram, C_InvalidOrder, C_InvalidChoices, C_InvalidPlace, C_InvalidFact, C_InvalidProtected, C_InvalidCount, C_InvalidText, C_InvalidCommand, C_UnknownPlace, C_UnknownModule, C_UnknownCall, C_UnknownFunction, C_UnknownWorker, C_Unsteady, C_NotReady, C_NoMeaning, C_Protected, C_Missing, C_Circular, C_NameTaken, C_CallTaken, C_Busy, C_Idle, C_Turned, C_NothingToUndo, C_CommandFailed, C_TooMany] : List Addr).getD i 0) (.ref C_CallTaken) tb_CallTaken && (isChk K (fun i => ([C_MeantError, C_InvalidName, C_InvalidPath, C_InvalidArguments, C_InvalidProgram, C_InvalidOrder, C_InvalidChoices, C_InvalidPlace, C_InvalidFact, C_InvalidProtected, C_InvalidCount, C_InvalidText, C_InvalidCommand, C_UnknownPlace, C_UnknownModule, C_UnknownCall, C_UnknownFunction, C_UnknownWorker, C_Unsteady, C_NotReady, C_NoMeaning, C_Protected, C_Missing, C_Circular, C_NameTaken, C_CallTaken, C_Busy, C_Idle, C_Turned, C_NothingToUndo, C_CommandFailed, C_TooMany] : List Addr).getD i 0) (.ref C_NothingToUndo) tb_NothingToUndo && (isChk K (fun i => ([C_MeantError, C_InvalidName, C_InvalidPath, C_InvalidArguments, C_InvalidProgram, C_InvalidOrder, C_InvalidChoices, C_InvalidPlace, C_InvalidFact, C_InvalidProtected, C_InvalidCount, C_InvalidText, C_InvalidCommand, C_UnknownPlace, C_UnknownModule, C_UnknownCall, C_UnknownFunction, C_UnknownWorker, C_Unsteady, C_NotReady, C_NoMeaning, C_Protected, C_Missing, C_Circular, C_NameTaken, C_CallTaken, C_Busy, C_Idle, C_Turned, C_NothingToUndo, C_CommandFailed, C_TooMany] : List Addr).getD i 0) (.ref C_Turned) tb_Turned && (isChk K (fun i => ([C_MeantError, C_InvalidName, C_InvalidPath, C_InvalidArguments, C_InvalidProgram, C_InvalidOrder, C_InvalidChoices, C_InvalidPlace, C_InvalidFact, C_InvalidProtected, C_InvalidCount, C_InvalidText, C_InvalidCommand, C_UnknownPlace, C_UnknownModule, C_UnknownCall, C_UnknownFunction, C_UnknownWorker, C_Unsteady, C_NotReady, C_NoMeaning, C_Protected, C_Missing, C_Circular, C_NameTaken, C_CallTaken, C_Busy, C_Idle, C_Turned, C_NothingToUndo, C_CommandFailed, C_TooMany] : List Addr).getD i 0) (.ref C_TooMany) tb_TooMany && (isChk K (fun i => ([C_MeantError, C_InvalidName, C_InvalidPath, C_InvalidArguments, C_InvalidProgram, C_InvalidOrder, C_InvalidChoices, C_InvalidPlace, C_InvalidFact, C_InvalidProtected, C_InvalidCount, C_InvalidText, C_InvalidCommand, C_UnknownPlace, C_UnknownModule, C_UnknownCall, C_UnknownFunction, C_UnknownWorker, C_Unsteady, C_NotReady, C_NoMeaning, C_Protected, C_Missing, C_Circular, C_NameTaken, C_CallTaken, C_Busy, C_Idle, C_Turned, C_NothingToUndo, C_CommandFailed, C_TooMany] : List Addr).getD i 0) (.ref C_CommandFailed) tb_CommandFailed && (PySem.W.excIn K C_MeantError Fam.val.up Fam.val.mk && (errB K .val C_InvalidName && (fldB K C_InvalidName ["value"] && (errB K .val C_InvalidPath && (fldB K C_InvalidPath ["value"] && (errB K .val C_InvalidArguments && (fldB K C_InvalidArguments ["value"] && (errB K .val C_InvalidProgram && (fldB K C_InvalidProgram ["problem", "place"] && (errB K .val C_InvalidOrder && (fldB K C_InvalidOrder ["position"] && (errB K .val C_InvalidChoices && (fldB K C_InvalidChoices ["value"] && (errB K .val C_InvalidPlace && (fldB K C_InvalidPlace ["value"] && (errB K .val C_InvalidFact && (fldB K C_InvalidFact ["value"] && (errB K .val C_InvalidProtected && (fldB K C_InvalidProtected ["value"] && (errB K .val C_InvalidCount && (fldB K C_InvalidCount ["value"] && (errB K .val C_InvalidText && (fldB K C_InvalidText ["line"] && (errB K .val C_InvalidCommand && (fldB K C_InvalidCommand ["value"] && (errB K .look C_UnknownPlace && (fldB K C_UnknownPlace ["value"] && (errB K .look C_UnknownModule && (fldB K C_UnknownModule ["value"] && (errB K .look C_UnknownCall && (fldB K C_UnknownCall ["value"] && (errB K .look C_UnknownFunction && (fldB K C_UnknownFunction ["value"] && (errB K .look C_UnknownWorker && (fldB K C_UnknownWorker ["value"] && (errB K .run C_Unsteady && (fldB K C_Unsteady ["certificate"] && (errB K .run C_NotReady && (fldB K C_NotReady ["value"] && (errB K .run C_NoMeaning && (fldB K C_NoMeaning ["module", "name"] && (errB K .run C_Protected && (fldB K C_Protected ["module", "name"] && (errB K .run C_Missing && (fldB K C_Missing ["place", "path"] && (errB K .run C_Circular && (fldB K C_Circular ["place"] && (errB K .run C_NameTaken && (fldB K C_NameTaken ["name"] && (errB K .run C_CallTaken && (fldB K C_CallTaken ["place"] && (errB K .run C_Busy && (fldB K C_Busy ["worker"] && (errB K .run C_Idle && (fldB K C_Idle ["worker"] && (errB K .run C_Turned && (fldB K C_Turned ["worker"] && (errB K .run C_NothingToUndo && (fldB K C_NothingToUndo ["count"] && (errB K .run C_CommandFailed && (fldB K C_CommandFailed ["position", "results"] && (errB K .arith C_TooMany && (fldB K C_TooMany ["kind", "limit"] && true))))))))))))))))))))))))))))))))))))))))))))))))))))))))))))))))))))))))))))))))))))))))))))))))))))))))))))))))))) = true)
    : ∃ (fd : FuncData) (C : Ctx), (C.K = K ∧ C.tab = []) ∧ (∀ (s : Shared) (u : Value), BindsTo s fd ⟨[u], []⟩ [("_law_script", u)]) ∧ ∀ base : Heap, K.In base → base.Ns mainGlobals mg → FnG P w K mg base CX0 4 fa fd ["_law_script"] (spM C 1 F_law) := by
  have e := hfa.symm.trans (PySem.W.mg_of X G a_law)
  cases e
  have exall := (Bool.and_eq_true_iff.mp chk).1
  have chk_0 := (Bool.and_eq_true_iff.mp chk).2
  have xf_certificate := (Bool.and_eq_true_iff.mp chk_0).1
  have chk_1 := (Bool.and_eq_true_iff.mp chk_0).2
  have xf_count := (Bool.and_eq_true_iff.mp chk_1).1
  have chk_2 := (Bool.and_eq_true_iff.mp chk_1).2
  have xf_kind := (Bool.and_eq_true_iff.mp chk_2).1
  have chk_3 := (Bool.and_eq_true_iff.mp chk_2).2
  have xf_limit := (Bool.and_eq_true_iff.mp chk_3).1
  have chk_4 := (Bool.and_eq_true_iff.mp chk_3).2
  have xf_line := (Bool.and_eq_true_iff.mp chk_4).1
  have chk_5 := (Bool.and_eq_true_iff.mp chk_4).2
  have xf_module := (Bool.and_eq_true_iff.mp chk_5).1
  have chk_6 := (Bool.and_eq_true_iff.mp chk_5).2
  have xf_name := (Bool.and_eq_true_iff.mp chk_6).1
  have chk_7 := (Bool.and_eq_true_iff.mp chk_6).2
  have xf_path := (Bool.and_eq_true_iff.mp chk_7).1
  have chk_8 := (Bool.and_eq_true_iff.mp chk_7).2
  have xf_place := (Bool.and_eq_true_iff.mp chk_8).1
  have chk_9 := (Bool.and_eq_true_iff.mp chk_8).2
  have xf_position := (Bool.and_eq_true_iff.mp chk_9).1
  have chk_10 := (Bool.and_eq_true_iff.mp chk_9).2
  have xf_problem := (Bool.and_eq_true_iff.mp chk_10).1
  have chk_11 := (Bool.and_eq_true_iff.mp chk_10).2
  have xf_results := (Bool.and_eq_true_iff.mp chk_11).1
  have chk_12 := (Bool.and_eq_true_iff.mp chk_11).2
  have xf_value := (Bool.and_eq_true_iff.mp chk_12).1
  have chk_13 := (Bool.and_eq_true_iff.mp chk_12).2
  have xf_worker := (Bool.and_eq_true_iff.mp chk_13).1
  have chk_14 := (Bool.and_eq_true_iff.mp chk_13).2
  have is_LookupError := (Bool.and_eq_true_iff.mp chk_14).1
  have chk_15 := (Bool.and_eq_true_iff.mp chk_14).2
  have is_ValueError := (Bool.and_eq_true_iff.mp chk_15).1
  have chk_16 := (Bool.and_eq_true_iff.mp chk_15).2
  have is_MeantError := (Bool.and_eq_true_iff.mp chk_16).1
  have chk_17 := (Bool.and_eq_true_iff.mp chk_16).2
  have is_Exception := (Bool.and_eq_true_iff.mp chk_17).1
  have chk_18 := (Bool.and_eq_true_iff.mp chk_17).2
  have is_ArithmeticError := (Bool.and_eq_true_iff.mp chk_18).1
  have chk_19 := (Bool.and_eq_true_iff.mp chk_18).2
  have is_RuntimeError := (Bool.and_eq_true_iff.mp chk_19).1
  have chk_20 := (Bool.and_eq_true_iff.mp chk_19).2
  have is_InvalidArguments := (Bool.and_eq_true_iff.mp chk_20).1
  have chk_21 := (Bool.and_eq_true_iff.mp chk_20).2
  have is_InvalidPath := (Bool.and_eq_true_iff.mp chk_21).1
  have chk_22 := (Bool.and_eq_true_iff.mp chk_21).2
  have is_InvalidName := (Bool.and_eq_true_iff.mp chk_22).1
  have chk_23 := (Bool.and_eq_true_iff.mp chk_22).2
  have is_InvalidChoices := (Bool.and_eq_true_iff.mp chk_23).1
  have chk_24 := (Bool.and_eq_true_iff.mp chk_23).2
  have is_InvalidOrder := (Bool.and_eq_true_iff.mp chk_24).1
  have chk_25 := (Bool.and_eq_true_iff.mp chk_24).2
  have is_InvalidProgram := (Bool.and_eq_true_iff.mp chk_25).1
  have chk_26 := (Bool.and_eq_true_iff.mp chk_25).2
  have is_InvalidProtected := (Bool.and_eq_true_iff.mp chk_26).1
  have chk_27 := (Bool.and_eq_true_iff.mp chk_26).2
  have is_InvalidFact := (Bool.and_eq_true_iff.mp chk_27).1
  have chk_28 := (Bool.and_eq_true_iff.mp chk_27).2
  have is_InvalidPlace := (Bool.and_eq_true_iff.mp chk_28).1
  have chk_29 := (Bool.and_eq_true_iff.mp chk_28).2
  have is_InvalidCommand := (Bool.and_eq_true_iff.mp chk_29).1
  have chk_30 := (Bool.and_eq_true_iff.mp chk_29).2
  have is_InvalidText := (Bool.and_eq_true_iff.mp chk_30).1
  have chk_31 := (Bool.and_eq_true_iff.mp chk_30).2
  have is_InvalidCount := (Bool.and_eq_true_iff.mp chk_31).1
  have chk_32 := (Bool.and_eq_true_iff.mp chk_31).2
  have is_UnknownCall := (Bool.and_eq_true_iff.mp chk_32).1
  have chk_33 := (Bool.and_eq_true_iff.mp chk_32).2
  have is_UnknownModule := (Bool.and_eq_true_iff.mp chk_33).1
  have chk_34 := (Bool.and_eq_true_iff.mp chk_33).2
  have is_UnknownPlace := (Bool.and_eq_true_iff.mp chk_34).1
  have chk_35 := (Bool.and_eq_true_iff.mp chk_34).2
  have is_Unsteady := (Bool.and_eq_true_iff.mp chk_35).1
  have chk_36 := (Bool.and_eq_true_iff.mp chk_35).2
  have is_UnknownWorker := (Bool.and_eq_true_iff.mp chk_36).1
  have chk_37 := (Bool.and_eq_true_iff.mp chk_36).2
  have is_UnknownFunction := (Bool.and_eq_true_iff.mp chk_37).1
  have chk_38 := (Bool.and_eq_true_iff.mp chk_37).2
  have is_Protected := (Bool.and_eq_true_iff.mp chk_38).1
  have chk_39 := (Bool.and_eq_true_iff.mp chk_38).2
  have is_NoMeaning := (Bool.and_eq_true_iff.mp chk_39).1
  have chk_40 := (Bool.and_eq_true_iff.mp chk_39).2
  have is_NotReady := (Bool.and_eq_true_iff.mp chk_40).1
  have chk_41 := (Bool.and_eq_true_iff.mp chk_40).2
  have is_NameTaken := (Bool.and_eq_true_iff.mp chk_41).1
  have chk_42 := (Bool.and_eq_true_iff.mp chk_41).2
  have is_Circular := (Bool.and_eq_true_iff.mp chk_42).1
  have chk_43 := (Bool.and_eq_true_iff.mp chk_42).2
  have is_Missing := (Bool.and_eq_true_iff.mp chk_43).1
  have chk_44 := (Bool.and_eq_true_iff.mp chk_43).2
  have is_Idle := (Bool.and_eq_true_iff.mp chk_44).1
  have chk_45 := (Bool.and_eq_true_iff.mp chk_44).2
  have is_Busy := (Bool.and_eq_true_iff.mp chk_45).1
  have chk_46 := (Bool.and_eq_true_iff.mp chk_45).2
  have is_CallTaken := (Bool.and_eq_true_iff.mp chk_46).1
  have chk_47 := (Bool.and_eq_true_iff.mp chk_46).2
  have is_NothingToUndo := (Bool.and_eq_true_iff.mp chk_47).1
  have chk_48 := (Bool.and_eq_true_iff.mp chk_47).2
  have is_Turned := (Bool.and_eq_true_iff.mp chk_48).1
  have chk_49 := (Bool.and_eq_true_iff.mp chk_48).2
  have is_TooMany := (Bool.and_eq_true_iff.mp chk_49).1
  have chk_50 := (Bool.and_eq_true_iff.mp chk_49).2
  have is_CommandFailed := (Bool.and_eq_true_iff.mp chk_50).1
  have chk_51 := (Bool.and_eq_true_iff.mp chk_50).2
  have eq_MeantError := (Bool.and_eq_true_iff.mp chk_51).1
  have chk_52 := (Bool.and_eq_true_iff.mp chk_51).2
  have eb_InvalidName := (Bool.and_eq_true_iff.mp chk_52).1
  have chk_53 := (Bool.and_eq_true_iff.mp chk_52).2
  have nf_InvalidName := (Bool.and_eq_true_iff.mp chk_53).1
  have chk_54 := (Bool.and_eq_true_iff.mp chk_53).2
  have eb_InvalidPath := (Bool.and_eq_true_iff.mp chk_54).1
  have chk_55 := (Bool.and_eq_true_iff.mp chk_54).2
  have nf_InvalidPath := (Bool.and_eq_true_iff.mp chk_55).1
  have chk_56 := (Bool.and_eq_true_iff.mp chk_55).2
  have eb_InvalidArguments := (Bool.and_eq_true_iff.mp chk_56).1
  have chk_57 := (Bool.and_eq_true_iff.mp chk_56).2
  have nf_InvalidArguments := (Bool.and_eq_true_iff.mp chk_57).1
  have chk_58 := (Bool.and_eq_true_iff.mp chk_57).2
  have eb_InvalidProgram := (Bool.and_eq_true_iff.mp chk_58).1
  have chk_59 := (Bool.and_eq_true_iff.mp chk_58).2
  have nf_InvalidProgram := (Bool.and_eq_true_iff.mp chk_59).1
  have chk_60 := (Bool.and_eq_true_iff.mp chk_59).2
  have eb_InvalidOrder := (Bool.and_eq_true_iff.mp chk_60).1
  have chk_61 := (Bool.and_eq_true_iff.mp chk_60).2
  have nf_InvalidOrder := (Bool.and_eq_true_iff.mp chk_61).1
  have chk_62 := (Bool.and_eq_true_iff.mp chk_61).2
  have eb_InvalidChoices := (Bool.and_eq_true_iff.mp chk_62).1
  have chk_63 := (Bool.and_eq_true_iff.mp chk_62).2
  have nf_InvalidChoices := (Bool.and_eq_true_iff.mp chk_63).1
  have chk_64 := (Bool.and_eq_true_iff.mp chk_63).2
  have eb_InvalidPlace := (Bool.and_eq_true_iff.mp chk_64).1
  have chk_65 := (Bool.and_eq_true_iff.mp chk_64).2
  have nf_InvalidPlace := (Bool.and_eq_true_iff.mp chk_65).1
  have chk_66 := (Bool.and_eq_true_iff.mp chk_65).2
  have eb_InvalidFact := (Bool.and_eq_true_iff.mp chk_66).1
  have chk_67 := (Bool.and_eq_true_iff.mp chk_66).2
  have nf_InvalidFact := (Bool.and_eq_true_iff.mp chk_67).1
  have chk_68 := (Bool.and_eq_true_iff.mp chk_67).2
  have eb_InvalidProtected := (Bool.and_eq_true_iff.mp chk_68).1
  have chk_69 := (Bool.and_eq_true_iff.mp chk_68).2
  have nf_InvalidProtected := (Bool.and_eq_true_iff.mp chk_69).1
  have chk_70 := (Bool.and_eq_true_iff.mp chk_69).2
  have eb_InvalidCount := (Bool.and_eq_true_iff.mp chk_70).1
  have chk_71 := (Bool.and_eq_true_iff.mp chk_70).2
  have nf_InvalidCount := (Bool.and_eq_true_iff.mp chk_71).1
  have chk_72 := (Bool.and_eq_true_iff.mp chk_71).2
  have eb_InvalidText := (Bool.and_eq_true_iff.mp chk_72).1
  have chk_73 := (Bool.and_eq_true_iff.mp chk_72).2
  have nf_InvalidText := (Bool.and_eq_true_iff.mp chk_73).1
  have chk_74 := (Bool.and_eq_true_iff.mp chk_73).2
  have eb_InvalidCommand := (Bool.and_eq_true_iff.mp chk_74).1
  have chk_75 := (Bool.and_eq_true_iff.mp chk_74).2
  have nf_InvalidCommand := (Bool.and_eq_true_iff.mp chk_75).1
  have chk_76 := (Bool.and_eq_true_iff.mp chk_75).2
  have eb_UnknownPlace := (Bool.and_eq_true_iff.mp chk_76).1
  have chk_77 := (Bool.and_eq_true_iff.mp chk_76).2
  have nf_UnknownPlace := (Bool.and_eq_true_iff.mp chk_77).1
  have chk_78 := (Bool.and_eq_true_iff.mp chk_77).2
  have eb_UnknownModule := (Bool.and_eq_true_iff.mp chk_78).1
  have chk_79 := (Bool.and_eq_true_iff.mp chk_78).2
  have nf_UnknownModule := (Bool.and_eq_true_iff.mp chk_79).1
  have chk_80 := (Bool.and_eq_true_iff.mp chk_79).2
  have eb_UnknownCall := (Bool.and_eq_true_iff.mp chk_80).1
  have chk_81 := (Bool.and_eq_true_iff.mp chk_80).2
  have nf_UnknownCall := (Bool.and_eq_true_iff.mp chk_81).1
  have chk_82 := (Bool.and_eq_true_iff.mp chk_81).2
  have eb_UnknownFunction := (Bool.and_eq_true_iff.mp chk_82).1
  have chk_83 := (Bool.and_eq_true_iff.mp chk_82).2
  have nf_UnknownFunction := (Bool.and_eq_true_iff.mp chk_83).1
  have chk_84 := (Bool.and_eq_true_iff.mp chk_83).2
  have eb_UnknownWorker := (Bool.and_eq_true_iff.mp chk_84).1
  have chk_85 := (Bool.and_eq_true_iff.mp chk_84).2
  have nf_UnknownWorker := (Bool.and_eq_true_iff.mp chk_85).1
  have chk_86 := (Bool.and_eq_true_iff.mp chk_85).2
  have eb_Unsteady := (Bool.and_eq_true_iff.mp chk_86).1
  have chk_87 := (Bool.and_eq_true_iff.mp chk_86).2
  have nf_Unsteady := (Bool.and_eq_true_iff.mp chk_87).1
  have chk_88 := (Bool.and_eq_true_iff.mp chk_87).2
  have eb_NotReady := (Bool.and_eq_true_iff.mp chk_88).1
  have chk_89 := (Bool.and_eq_true_iff.mp chk_88).2
  have nf_NotReady := (Bool.and_eq_true_iff.mp chk_89).1
  have chk_90 := (Bool.and_eq_true_iff.mp chk_89).2
  have eb_NoMeaning := (Bool.and_eq_true_iff.mp chk_90).1
  have chk_91 := (Bool.and_eq_true_iff.mp chk_90).2
  have nf_NoMeaning := (Bool.and_eq_true_iff.mp chk_91).1
  have chk_92 := (Bool.and_eq_true_iff.mp chk_91).2
  have eb_Protected := (Bool.and_eq_true_iff.mp chk_92).1
  have chk_93 := (Bool.and_eq_true_iff.mp chk_92).2
  have nf_Protected := (Bool.and_eq_true_iff.mp chk_93).1
  have chk_94 := (Bool.and_eq_true_iff.mp chk_93).2
  have eb_Missing := (Bool.and_eq_true_iff.mp chk_94).1
  have chk_95 := (Bool.and_eq_true_iff.mp chk_94).2
  have nf_Missing := (Bool.and_eq_true_iff.mp chk_95).1
  have chk_96 := (Bool.and_eq_true_iff.mp chk_95).2
  have eb_Circular := (Bool.and_eq_true_iff.mp chk_96).1
  have chk_97 := (Bool.and_eq_true_iff.mp chk_96).2
  have nf_Circular := (Bool.and_eq_true_iff.mp chk_97).1
  have chk_98 := (Bool.and_eq_true_iff.mp chk_97).2
  have eb_NameTaken := (Bool.and_eq_true_iff.mp chk_98).1
  have chk_99 := (Bool.and_eq_true_iff.mp chk_98).2
  have nf_NameTaken := (Bool.and_eq_true_iff.mp chk_99).1
  have chk_100 := (Bool.and_eq_true_iff.mp chk_99).2
  have eb_CallTaken := (Bool.and_eq_true_iff.mp chk_100).1
  have chk_101 := (Bool.and_eq_true_iff.mp chk_100).2
  have nf_CallTaken := (Bool.and_eq_true_iff.mp chk_101).1
  have chk_102 := (Bool.and_eq_true_iff.mp chk_101).2
  have eb_Busy := (Bool.and_eq_true_iff.mp chk_102).1
  have chk_103 := (Bool.and_eq_true_iff.mp chk_102).2
  have nf_Busy := (Bool.and_eq_true_iff.mp chk_103).1
  have chk_104 := (Bool.and_eq_true_iff.mp chk_103).2
  have eb_Idle := (Bool.and_eq_true_iff.mp chk_104).1
  have chk_105 := (Bool.and_eq_true_iff.mp chk_104).2
  have nf_Idle := (Bool.and_eq_true_iff.mp chk_105).1
  have chk_106 := (Bool.and_eq_true_iff.mp chk_105).2
  have eb_Turned := (Bool.and_eq_true_iff.mp chk_106).1
  have chk_107 := (Bool.and_eq_true_iff.mp chk_106).2
  have nf_Turned := (Bool.and_eq_true_iff.mp chk_107).1
  have chk_108 := (Bool.and_eq_true_iff.mp chk_107).2
  have eb_NothingToUndo := (Bool.and_eq_true_iff.mp chk_108).1
  have chk_109 := (Bool.and_eq_true_iff.mp chk_108).2
  have nf_NothingToUndo := (Bool.and_eq_true_iff.mp chk_109).1
  have chk_110 := (Bool.and_eq_true_iff.mp chk_109).2
  have eb_CommandFailed := (Bool.and_eq_true_iff.mp chk_110).1
  have chk_111 := (Bool.and_eq_true_iff.mp chk_110).2
  have nf_CommandFailed := (Bool.and_eq_true_iff.mp chk_111).1
  have chk_112 := (Bool.and_eq_true_iff.mp chk_111).2
  have eb_TooMany := (Bool.and_eq_true_iff.mp chk_112).1
  have chk_113 := (Bool.and_eq_true_iff.mp chk_112).2
  have nf_TooMany := (Bool.and_eq_true_iff.mp chk_113).1
  have chk_114 := (Bool.and_eq_true_iff.mp chk_113).2
  have FD_InvalidName := fund0m (st := st_InvalidName) l_InvalidName c_InvalidName k_InvalidName
  have b_er_InvalidName := FD_InvalidName.bindsN (ps := ["self", "value"]) fun _ _ _ _ _ _ us hl => match us, hl with | [_, _], _ => rfl
  have b_ew_InvalidName := FD_InvalidName.kbindsP (ps := ["self", "value"]) 1 ["value"] [0, 1] fun _ _ _ _ _ _ us ws h1 h2 => match us, ws, h1, h2 with | [_], [_], _, _ => rfl
  have FD_InvalidPath := fund0m (st := st_InvalidPath) l_InvalidPath c_InvalidPath k_InvalidPath
  have b_er_InvalidPath := FD_InvalidPath.bindsN (ps := ["self", "value"]) fun _ _ _ _ _ _ us hl => match us, hl with | [_, _], _ => rfl
  have b_ew_InvalidPath := FD_InvalidPath.kbindsP (ps := ["self", "value"]) 1 ["value"] [0, 1] fun _ _ _ _ _ _ us ws h1 h2 => match us, ws, h1, h2 with | [_], [_], _, _ => rfl
  have FD_InvalidArguments := fund0m (st := st_InvalidArguments) l_InvalidArguments c_InvalidArguments k_InvalidArguments
  have b_er_InvalidArguments := FD_InvalidArguments.bindsN (ps := ["self", "value"]) fun _ _ _ _ _ _ us hl => match us, hl with | [_, _], _ => rfl
  have b_ew_InvalidArguments := FD_InvalidArguments.kbindsP (ps := ["self", "value"]) 1 ["value"] [0, 1] fun _ _ _ _ _ _ us ws h1 h2 => match us, ws, h1, h2 with | [_], [_], _, _ => rfl
  have FD_InvalidProgram := fund0m (st := st_InvalidProgram) l_InvalidProgram c_InvalidProgram k_InvalidProgram
  have b_er_InvalidProgram := FD_InvalidProgram.bindsN (ps := ["self", "problem", "place"]) fun _ _ _ _ _ _ us hl => match us, hl with | [_, _, _], _ => rfl
  have b_ew_InvalidProgram := FD_InvalidProgram.kbindsP (ps := ["self", "problem", "place"]) 1 ["place", "problem"] [0, 2, 1] fun _ _ _ _ _ _ us ws h1 h2 => match us, ws, h1, h2 with | [_], [_, _], _, _ => rfl
  have FD_InvalidOrder := fund0m (st := st_InvalidOrder) l_InvalidOrder c_InvalidOrder k_InvalidOrder
  have b_er_InvalidOrder := FD_InvalidOrder.bindsN (ps := ["self", "position"]) fun _ _ _ _ _ _ us hl => match us, hl with | [_, _], _ => rfl
  have b_ew_InvalidOrder := FD_InvalidOrder.kbindsP (ps := ["self", "position"]) 1 ["position"] [0, 1] fun _ _ _ _ _ _ us ws h1 h2 => match us, ws, h1, h2 with | [_], [_], _, _ => rfl
  have FD_InvalidChoices := fund0m (st := st_InvalidChoices) l_InvalidChoices c_InvalidChoices k_InvalidChoices
  have b_er_InvalidChoices := FD_InvalidChoices.bindsN (ps := ["self", "value"]) fun _ _ _ _ _ _ us hl => match us, hl with | [_, _], _ => rfl
  have b_ew_InvalidChoices := FD_InvalidChoices.kbindsP (ps := ["self", "value"]) 1 ["value"] [0, 1] fun _ _ _ _ _ _ us ws h1 h2 => match us, ws, h1, h2 with | [_], [_], _, _ => rfl
  have FD_InvalidPlace := fund0m (st := st_InvalidPlace) l_InvalidPlace c_InvalidPlace k_InvalidPlace
  have b_er_InvalidPlace := FD_InvalidPlace.bindsN (ps := ["self", "value"]) fun _ _ _ _ _ _ us hl => match us, hl with | [_, _], _ => rfl
  have b_ew_InvalidPlace := FD_InvalidPlace.kbindsP (ps := ["self", "value"]) 1 ["value"] [0, 1] fun _ _ _ _ _ _ us ws h1 h2 => match us, ws, h1, h2 with | [_], [_], _, _ => rfl
  have FD_InvalidFact := fund0m (st := st_InvalidFact) l_InvalidFact c_InvalidFact k_InvalidFact
  have b_er_InvalidFact := FD_InvalidFact.bindsN (ps := ["self", "value"]) fun _ _ _ _ _ _ us hl => match us, hl with | [_, _], _ => rfl
  have b_ew_InvalidFact := FD_InvalidFact.kbindsP (ps := ["self", "value"]) 1 ["value"] [0, 1] fun _ _ _ _ _ _ us ws h1 h2 => match us, ws, h1, h2 with | [_], [_], _, _ => rfl
  have FD_InvalidProtected := fund0m (st := st_InvalidProtected) l_InvalidProtected c_InvalidProtected k_InvalidProtected
  have b_er_InvalidProtected := FD_InvalidProtected.bindsN (ps := ["self", "value"]) fun _ _ _ _ _ _ us hl => match us, hl with | [_, _], _ => rfl
  have b_ew_InvalidProtected := FD_InvalidProtected.kbindsP (ps := ["self", "value"]) 1 ["value"] [0, 1] fun _ _ _ _ _ _ us ws h1 h2 => match us, ws, h1, h2 with | [_], [_], _, _ => rfl
  have FD_InvalidCount := fund0m (st := st_InvalidCount) l_InvalidCount c_InvalidCount k_InvalidCount
  have b_er_InvalidCount := FD_InvalidCount.bindsN (ps := ["self", "value"]) fun _ _ _ _ _ _ us hl => match us, hl with | [_, _], _ => rfl
  have b_ew_InvalidCount := FD_InvalidCount.kbindsP (ps := ["self", "value"]) 1 ["value"] [0, 1] fun _ _ _ _ _ _ us ws h1 h2 => match us, ws, h1, h2 with | [_], [_], _, _ => rfl
  have FD_InvalidText := fund0m (st := st_InvalidText) l_InvalidText c_InvalidText k_InvalidText
  have b_er_InvalidText := FD_InvalidText.bindsN (ps := ["self", "line"]) fun _ _ _ _ _ _ us hl => match us, hl with | [_, _], _ => rfl
  have b_ew_InvalidText := FD_InvalidText.kbindsP (ps := ["self", "line"]) 1 ["line"] [0, 1] fun _ _ _ _ _ _ us ws h1 h2 => match us, ws, h1, h2 with | [_], [_], _, _ => rfl
  have FD_InvalidCommand := fund0m (st := st_InvalidCommand) l_InvalidCommand c_InvalidCommand k_InvalidCommand
  have b_er_InvalidCommand := FD_InvalidCommand.bindsN (ps := ["self", "value"]) fun _ _ _ _ _ _ us hl => match us, hl with | [_, _], _ => rfl
  have b_ew_InvalidCommand := FD_InvalidCommand.kbindsP (ps := ["self", "value"]) 1 ["value"] [0, 1] fun _ _ _ _ _ _ us ws h1 h2 => match us, ws, h1, h2 with | [_], [_], _, _ => rfl
  have FD_UnknownPlace := fund0m (st := st_UnknownPlace) l_UnknownPlace c_UnknownPlace k_UnknownPlace
  have b_er_UnknownPlace := FD_UnknownPlace.bindsN (ps := ["self", "value"]) fun _ _ _ _ _ _ us hl => match us, hl with | [_, _], _ => rfl
  have b_ew_UnknownPlace := FD_UnknownPlace.kbindsP (ps := ["self", "value"]) 1 ["value"] [0, 1] fun _ _ _ _ _ _ us ws h1 h2 => match us, ws, h1, h2 with | [_], [_], _, _ => rfl
  have FD_UnknownModule := fund0m (st := st_UnknownModule) l_UnknownModule c_UnknownModule k_UnknownModule
  have b_er_UnknownModule := FD_UnknownModule.bindsN (ps := ["self", "value"]) fun _ _ _ _ _ _ us hl => match us, hl with | [_, _], _ => rfl
  have b_ew_UnknownModule := FD_UnknownModule.kbindsP (ps := ["self", "value"]) 1 ["value"] [0, 1] fun _ _ _ _ _ _ us ws h1 h2 => match us, ws, h1, h2 with | [_], [_], _, _ => rfl
  have FD_UnknownCall := fund0m (st := st_UnknownCall) l_UnknownCall c_UnknownCall k_UnknownCall
  have b_er_UnknownCall := FD_UnknownCall.bindsN (ps := ["self", "value"]) fun _ _ _ _ _ _ us hl => match us, hl with | [_, _], _ => rfl
  have b_ew_UnknownCall := FD_UnknownCall.kbindsP (ps := ["self", "value"]) 1 ["value"] [0, 1] fun _ _ _ _ _ _ us ws h1 h2 => match us, ws, h1, h2 with | [_], [_], _, _ => rfl
  have FD_UnknownFunction := fund0m (st := st_UnknownFunction) l_UnknownFunction c_UnknownFunction k_UnknownFunction
  have b_er_UnknownFunction := FD_UnknownFunction.bindsN (ps := ["self", "value"]) fun _ _ _ _ _ _ us hl => match us, hl with | [_, _], _ => rfl
  have b_ew_UnknownFunction := FD_UnknownFunction.kbindsP (ps := ["self", "value"]) 1 ["value"] [0, 1] fun _ _ _ _ _ _ us ws h1 h2 => match us, ws, h1, h2 with | [_], [_], _, _ => rfl
  have FD_UnknownWorker := fund0m (st := st_UnknownWorker) l_UnknownWorker c_UnknownWorker k_UnknownWorker
  have b_er_UnknownWorker := FD_UnknownWorker.bindsN (ps := ["self", "value"]) fun _ _ _ _ _ _ us hl => match us, hl with | [_, _], _ => rfl
  have b_ew_UnknownWorker := FD_UnknownWorker.kbindsP (ps := ["self", "value"]) 1 ["value"] [0, 1] fun _ _ _ _ _ _ us ws h1 h2 => match us, ws, h1, h2 with | [_], [_], _, _ => rfl
  have FD_Unsteady := fund0m (st := st_Unsteady) l_Unsteady c_Unsteady k_Unsteady
  have b_er_Unsteady := FD_Unsteady.bindsN (ps := ["self", "certificate"]) fun _ _ _ _ _ _ us hl => match us, hl with | [_, _], _ => rfl
  have b_ew_Unsteady := FD_Unsteady.kbindsP (ps := ["self", "certificate"]) 1 ["certificate"] [0, 1] fun _ _ _ _ _ _ us ws h1 h2 => match us, ws, h1, h2 with | [_], [_], _, _ => rfl
  have FD_NotReady := fund0m (st := st_NotReady) l_NotReady c_NotReady k_NotReady
  have b_er_NotReady := FD_NotReady.bindsN (ps := ["self", "value"]) fun _ _ _ _ _ _ us hl => match us, hl with | [_, _], _ => rfl
  have b_ew_NotReady := FD_NotReady.kbindsP (ps := ["self", "value"]) 1 ["value"] [0, 1] fun _ _ _ _ _ _ us ws h1 h2 => match us, ws, h1, h2 with | [_], [_], _, _ => rfl
  have FD_NoMeaning := fund0m (st := st_NoMeaning) l_NoMeaning c_NoMeaning k_NoMeaning
  have b_er_NoMeaning := FD_NoMeaning.bindsN (ps := ["self", "module", "name"]) fun _ _ _ _ _ _ us hl => match us, hl with | [_, _, _], _ => rfl
  have b_ew_NoMeaning := FD_NoMeaning.kbindsP (ps := ["self", "module", "name"]) 1 ["name", "module"] [0, 2, 1] fun _ _ _ _ _ _ us ws h1 h2 => match us, ws, h1, h2 with | [_], [_, _], _, _ => rfl
  have FD_Protected := fund0m (st := st_Protected) l_Protected c_Protected k_Protected
  have b_er_Protected := FD_Protected.bindsN (ps := ["self", "module", "name"]) fun _ _ _ _ _ _ us hl => match us, hl with | [_, _, _], _ => rfl
  have b_ew_Protected := FD_Protected.kbindsP (ps := ["self", "module", "name"]) 1 ["name", "module"] [0, 2, 1] fun _ _ _ _ _ _ us ws h1 h2 => match us, ws, h1, h2 with | [_], [_, _], _, _ => rfl
  have FD_Missing := fund0m (st := st_Missing) l_Missing c_Missing k_Missing
  have b_er_Missing := FD_Missing.bindsN (ps := ["self", "place", "path"]) fun _ _ _ _ _ _ us hl => match us, hl with | [_, _, _], _ => rfl
  have b_ew_Missing := FD_Missing.kbindsP (ps := ["self", "place", "path"]) 1 ["path", "place"] [0, 2, 1] fun _ _ _ _ _ _ us ws h1 h2 => match us, ws, h1, h2 with | [_], [_, _], _, _ => rfl
  have FD_Circular := fund0m (st := st_Circular) l_Circular c_Circular k_Circular
  have b_er_Circular := FD_Circular.bindsN (ps := ["self", "place"]) fun _ _ _ _ _ _ us hl => match us, hl with | [_, _], _ => rfl
  have b_ew_Circular := FD_Circular.kbindsP (ps := ["self", "place"]) 1 ["place"] [0, 1] fun _ _ _ _ _ _ us ws h1 h2 => match us, ws, h1, h2 with | [_], [_], _, _ => rfl
  have FD_NameTaken := fund0m (st := st_NameTaken) l_NameTaken c_NameTaken k_NameTaken
  have b_er_NameTaken := FD_NameTaken.bindsN (ps := ["self", "name"]) fun _ _ _ _ _ _ us hl => match us, hl with | [_, _], _ => rfl
  have b_ew_NameTaken := FD_NameTaken.kbindsP (ps := ["self", "name"]) 1 ["name"] [0, 1] fun _ _ _ _ _ _ us ws h1 h2 => match us, ws, h1, h2 with | [_], [_], _, _ => rfl
  have FD_CallTaken := fund0m (st := st_CallTaken) l_CallTaken c_CallTaken k_CallTaken
  have b_er_CallTaken := FD_CallTaken.bindsN (ps := ["self", "place"]) fun _ _ _ _ _ _ us hl => match us, hl with | [_, _], _ => rfl
  have b_ew_CallTaken := FD_CallTaken.kbindsP (ps := ["self", "place"]) 1 ["place"] [0, 1] fun _ _ _ _ _ _ us ws h1 h2 => match us, ws, h1, h2 with | [_], [_], _, _ => rfl
  have FD_Busy := fund0m (st := st_Busy) l_Busy c_Busy k_Busy
  have b_er_Busy := FD_Busy.bindsN (ps := ["self", "worker"]) fun _ _ _ _ _ _ us hl => match us, hl with | [_, _], _ => rfl
  have b_ew_Busy := FD_Busy.kbindsP (ps := ["self", "worker"]) 1 ["worker"] [0, 1] fun _ _ _ _ _ _ us ws h1 h2 => match us, ws, h1, h2 with | [_], [_], _, _ => rfl
  have FD_Idle := fund0m (st := st_Idle) l_Idle c_Idle k_Idle
  have b_er_Idle := FD_Idle.bindsN (ps := ["self", "worker"]) fun _ _ _ _ _ _ us hl => match us, hl with | [_, _], _ => rfl
  have b_ew_Idle := FD_Idle.kbindsP (ps := ["self", "worker"]) 1 ["worker"] [0, 1] fun _ _ _ _ _ _ us ws h1 h2 => match us, ws, h1, h2 with | [_], [_], _, _ => rfl
  have FD_Turned := fund0m (st := st_Turned) l_Turned c_Turned k_Turned
  have b_er_Turned := FD_Turned.bindsN (ps := ["self", "worker"]) fun _ _ _ _ _ _ us hl => match us, hl with | [_, _], _ => rfl
  have b_ew_Turned := FD_Turned.kbindsP (ps := ["self", "worker"]) 1 ["worker"] [0, 1] fun _ _ _ _ _ _ us ws h1 h2 => match us, ws, h1, h2 with | [_], [_], _, _ => rfl
  have FD_NothingToUndo := fund0m (st := st_NothingToUndo) l_NothingToUndo c_NothingToUndo k_NothingToUndo
  have b_er_NothingToUndo := FD_NothingToUndo.bindsN (ps := ["self", "count"]) fun _ _ _ _ _ _ us hl => match us, hl with | [_, _], _ => rfl
  have b_ew_NothingToUndo := FD_NothingToUndo.kbindsP (ps := ["self", "count"]) 1 ["count"] [0, 1] fun _ _ _ _ _ _ us ws h1 h2 => match us, ws, h1, h2 with | [_], [_], _, _ => rfl
  have FD_CommandFailed := fund0m (st := st_CommandFailed) l_CommandFailed c_CommandFailed k_CommandFailed
  have b_er_CommandFailed := FD_CommandFailed.bindsN (ps := ["self", "position", "results"]) fun _ _ _ _ _ _ us hl => match us, hl with | [_, _, _], _ => rfl
  have b_ew_CommandFailed := FD_CommandFailed.kbindsP (ps := ["self", "position", "results"]) 1 ["results", "position"] [0, 2, 1] fun _ _ _ _ _ _ us ws h1 h2 => match us, ws, h1, h2 with | [_], [_, _], _, _ => rfl
  have FD_TooMany := fund0m (st := st_TooMany) l_TooMany c_TooMany k_TooMany
  have b_er_TooMany := FD_TooMany.bindsN (ps := ["self", "kind", "limit"]) fun _ _ _ _ _ _ us hl => match us, hl with | [_, _, _], _ => rfl
  have b_ew_TooMany := FD_TooMany.kbindsP (ps := ["self", "kind", "limit"]) 1 ["limit", "kind"] [0, 2, 1] fun _ _ _ _ _ _ us ws h1 h2 => match us, ws, h1, h2 with | [_], [_, _], _, _ => rfl
  have FD__law_rng := fund0 (st := st__law_rng) l__law_rng c__law_rng k__law_rng
  have M__law_rng := PySem.W.mg_of X G a__law_rng
  have FD__law_draw := fund0 (st := st__law_draw) l__law_draw c__law_draw k__law_draw
  have M__law_draw := PySem.W.mg_of X G a__law_draw
  have FD__law_choice := fund0 (st := st__law_choice) l__law_choice c__law_choice k__law_choice
  have M__law_choice := PySem.W.mg_of X G a__law_choice
  have FD__law_value := fund0 (st := st__law_value) l__law_value c__law_value k__law_value
  have M__law_value := PySem.W.mg_of X G a__law_value
  have FD__law_bases := fund0 (st := st__law_bases) l__law_bases c__law_bases k__law_bases
  have M__law_bases := PySem.W.mg_of X G a__law_bases
  have FD__law_kinds := fund0 (st := st__law_kinds) l__law_kinds c__law_kinds k__law_kinds
  have M__law_kinds := PySem.W.mg_of X G a__law_kinds
  have FD__law_ones_right := fund0 (st := st__law_ones_right) l__law_ones_right c__law_ones_right k__law_ones_right
  have M__law_ones_right := PySem.W.mg_of X G a__law_ones_right
  have FD__law_states_right := fund0 (st := st__law_states_right) l__law_states_right c__law_states_right k__law_states_right
  have M__law_states_right := PySem.W.mg_of X G a__law_states_right
  have FD__law_pairs_right := fund0 (st := st__law_pairs_right) l__law_pairs_right c__law_pairs_right k__law_pairs_right
  have M__law_pairs_right := PySem.W.mg_of X G a__law_pairs_right
  have FD__law_numbers_right := fund0 (st := st__law_numbers_right) l__law_numbers_right c__law_numbers_right k__law_numbers_right
  have M__law_numbers_right := PySem.W.mg_of X G a__law_numbers_right
  have FD_law := fund0 (st := st_law) l_law c_law k_law
  have M_law := PySem.W.mg_of X G a_law
  have b_c__law_rng_2 := FD__law_rng.bindsN (ps := ["_law_script", "_law_k"]) fun _ _ _ _ _ _ us hl => match us, hl with | [_, _], _ => rfl
  have b_c__law_draw_2 := FD__law_draw.bindsN (ps := ["_law_rng_here", "_law_many"]) fun _ _ _ _ _ _ us hl => match us, hl with | [_, _], _ => rfl
  have b_c__law_choice_2 := FD__law_choice.bindsN (ps := ["_law_rng_here", "_law_some"]) fun _ _ _ _ _ _ us hl => match us, hl with | [_, _], _ => rfl
  have b_c__law_value_1 := FD__law_value.bindsN (ps := ["_law_rng_here"]) fun _ _ _ _ _ _ us hl => match us, hl with | [_], _ => rfl
  have b_c__law_bases_1 := FD__law_bases.bindsN (ps := ["_law_e"]) fun _ _ _ _ _ _ us hl => match us, hl with | [_], _ => rfl
  have b_c__law_kinds_1 := FD__law_kinds.bindsN (ps := ["_law_e"]) fun _ _ _ _ _ _ us hl => match us, hl with | [_], _ => rfl
  have b_c__law_ones_right_1 := FD__law_ones_right.bindsN (ps := ["_law_one"]) fun _ _ _ _ _ _ us hl => match us, hl with | [_], _ => rfl
  have b_c__law_states_right_1 := FD__law_states_right.bindsN (ps := ["_law_one"]) fun _ _ _ _ _ _ us hl => match us, hl with | [_], _ => rfl
  have b_c__law_pairs_right_2 := FD__law_pairs_right.bindsN (ps := ["_law_one", "_law_other"]) fun _ _ _ _ _ _ us hl => match us, hl with | [_, _], _ => rfl
  have b_c__law_numbers_right_1 := FD__law_numbers_right.bindsN (ps := ["_law_one"]) fun _ _ _ _ _ _ us hl => match us, hl with | [_], _ => rfl
  have TT : TX ⟨K, fun i => ([] : List Addr).getD i 0, fun i => ([C_MeantError, C_InvalidName, C_InvalidPath, C_InvalidArguments, C_InvalidProgram, C_InvalidOrder, C_InvalidChoices, C_InvalidPlace, C_InvalidFact, C_InvalidProtected, C_InvalidCount, C_InvalidText, C_InvalidCommand, C_UnknownPlace, C_UnknownModule, C_UnknownCall, C_UnknownFunction, C_UnknownWorker, C_Unsteady, C_NotReady, C_NoMeaning, C_Protected, C_Missing, C_Circular, C_NameTaken, C_CallTaken, C_Busy, C_Idle, C_Turned, C_NothingToUndo, C_CommandFailed, C_TooMany] : List Addr).getD i 0, []⟩ mg := ⟨PySem.W.mg_none_of X G z_ArithmeticError, PySem.W.mg_none_of X G z_Exception, PySem.W.mg_none_of X G z_LookupError, PySem.W.mg_none_of X G z_RuntimeError, PySem.W.mg_none_of X G z_ValueError, PySem.W.mg_none_of X G z_abs, PySem.W.mg_none_of X G z_all, PySem.W.mg_none_of X G z_divmod, PySem.W.mg_none_of X G z_isinstance, PySem.W.mg_none_of X G z_len, PySem.W.mg_none_of X G z_max, PySem.W.mg_none_of X G z_min, PySem.W.mg_none_of X G z_range, PySem.W.mg_none_of X G z_repr, PySem.W.mg_none_of X G z_sum, PySem.W.mg_of X G ac_MeantError, PySem.W.mg_of X G ac_InvalidName, PySem.W.mg_of X G ac_InvalidPath, PySem.W.mg_of X G ac_InvalidArguments, PySem.W.mg_of X G ac_InvalidProgram, PySem.W.mg_of X G ac_InvalidOrder, PySem.W.mg_of X G ac_InvalidChoices, PySem.W.mg_of X G ac_InvalidPlace, PySem.W.mg_of X G ac_InvalidFact, PySem.W.mg_of X G ac_InvalidProtected, PySem.W.mg_of X G ac_InvalidCount, PySem.W.mg_of X G ac_InvalidText, PySem.W.mg_of X G ac_InvalidCommand, PySem.W.mg_of X G ac_UnknownPlace, PySem.W.mg_of X G ac_UnknownModule, PySem.W.mg_of X G ac_UnknownCall, PySem.W.mg_of X G ac_UnknownFunction, PySem.W.mg_of X G ac_UnknownWorker, PySem.W.mg_of X G ac_Unsteady, PySem.W.mg_of X G ac_NotReady, PySem.W.mg_of X G ac_NoMeaning, PySem.W.mg_of X G ac_Protected, PySem.W.mg_of X G ac_Missing, PySem.W.mg_of X G ac_Circular, PySem.W.mg_of X G ac_NameTaken, PySem.W.mg_of X G ac_CallTaken, PySem.W.mg_of X G ac_Busy, PySem.W.mg_of X G ac_Idle, PySem.W.mg_of X G ac_Turned, PySem.W.mg_of X G ac_NothingToUndo, PySem.W.mg_of X G ac_CommandFailed, PySem.W.mg_of X G ac_TooMany, exAll_ok exall exget extk, xfChk_ok xf_certificate, xfChk_ok xf_count, xfChk_ok xf_kind, xfChk_ok xf_limit, xfChk_ok xf_line, xfChk_ok xf_module, xfChk_ok xf_name, xfChk_ok xf_path, xfChk_ok xf_place, xfChk_ok xf_position, xfChk_ok xf_problem, xfChk_ok xf_results, xfChk_ok xf_value, xfChk_ok xf_worker, is_LookupError, is_ValueError, is_MeantError, is_Exception, is_ArithmeticError, is_RuntimeError, is_InvalidArguments, is_InvalidPath, is_InvalidName, is_InvalidChoices, is_InvalidOrder, is_InvalidProgram, is_InvalidProtected, is_InvalidFact, is_InvalidPlace, is_InvalidCommand, is_InvalidText, is_InvalidCount, is_UnknownCall, is_UnknownModule, is_UnknownPlace, is_Unsteady, is_UnknownWorker, is_UnknownFunction, is_Protected, is_NoMeaning, is_NotReady, is_NameTaken, is_Circular, is_Missing, is_Idle, is_Busy, is_CallTaken, is_NothingToUndo, is_Turned, is_TooMany, is_CommandFailed, eq_MeantError, ek_MeantError, ⟨rd_MeantError, ga_MeantError⟩, vi_MeantError, vb_LookupError, vb_RuntimeError, vb_ArithmeticError⟩
  refine ⟨PySem.W.fnOf "law" "law" (defArgs st_law) (defBody st_law) (defScope st_law) .none kV_law dc_law pm_law an_law cd_law ct_law, ⟨K, fun i => ([] : List Addr).getD i 0, fun i => ([C_MeantError, C_InvalidName, C_InvalidPath, C_InvalidArguments, C_InvalidProgram, C_InvalidOrder, C_InvalidChoices, C_InvalidPlace, C_InvalidFact, C_InvalidProtected, C_InvalidCount, C_InvalidText, C_InvalidCommand, C_UnknownPlace, C_UnknownModule, C_UnknownCall, C_UnknownFunction, C_UnknownWorker, C_Unsteady, C_NotReady, C_NoMeaning, C_Protected, C_Missing, C_Circular, C_NameTaken, C_CallTaken, C_Busy, C_Idle, C_Turned, C_NothingToUndo, C_CommandFailed, C_TooMany] : List Addr).getD i 0, []⟩, ⟨rfl, rfl⟩, fun s u => .of_eq rfl, fun base _ _ => ?_⟩
  have G_InvalidName := ok_InvalidName (P := P) (w := w) (base := base) (C := ⟨K, fun i => ([] : List Addr).getD i 0, fun i => ([C_MeantError, C_InvalidName, C_InvalidPath, C_InvalidArguments, C_InvalidProgram, C_InvalidOrder, C_InvalidChoices, C_InvalidPlace, C_InvalidFact, C_InvalidProtected, C_InvalidCount, C_InvalidText, C_InvalidCommand, C_UnknownPlace, C_UnknownModule, C_UnknownCall, C_UnknownFunction, C_UnknownWorker, C_Unsteady, C_NotReady, C_NoMeaning, C_Protected, C_Missing, C_Circular, C_NameTaken, C_CallTaken, C_Busy, C_Idle, C_Turned, C_NothingToUndo, C_CommandFailed, C_TooMany] : List Addr).getD i 0, []⟩) TT FD_InvalidName
  have er_InvalidName : ErrOk (⟨K, fun i => ([] : List Addr).getD i 0, fun i => ([C_MeantError, C_InvalidName, C_InvalidPath, C_InvalidArguments, C_InvalidProgram, C_InvalidOrder, C_InvalidChoices, C_InvalidPlace, C_InvalidFact, C_InvalidProtected, C_InvalidCount, C_InvalidText, C_InvalidCommand, C_UnknownPlace, C_UnknownModule, C_UnknownCall, C_UnknownFunction, C_UnknownWorker, C_Unsteady, C_NotReady, C_NoMeaning, C_Protected, C_Missing, C_Circular, C_NameTaken, C_CallTaken, C_Busy, C_Idle, C_Turned, C_NothingToUndo, C_CommandFailed, C_TooMany] : List Addr).getD i 0, []⟩ : EV.Ctx) P w mg base 1 "InvalidName" 1 ["value"] := ⟨.val, f_InvalidName, _, _, PySem.W.mg_of X G ac_InvalidName, errB_ok eb_InvalidName, ai_InvalidName, ti_InvalidName, fldB_ok nf_InvalidName, G_InvalidName, b_er_InvalidName, rfl⟩
  have ew_InvalidName : ErrKw (⟨K, fun i => ([] : List Addr).getD i 0, fun i => ([C_MeantError, C_InvalidName, C_InvalidPath, C_InvalidArguments, C_InvalidProgram, C_InvalidOrder, C_InvalidChoices, C_InvalidPlace, C_InvalidFact, C_InvalidProtected, C_InvalidCount, C_InvalidText, C_InvalidCommand, C_UnknownPlace, C_UnknownModule, C_UnknownCall, C_UnknownFunction, C_UnknownWorker, C_Unsteady, C_NotReady, C_NoMeaning, C_Protected, C_Missing, C_Circular, C_NameTaken, C_CallTaken, C_Busy, C_Idle, C_Turned, C_NothingToUndo, C_CommandFailed, C_TooMany] : List Addr).getD i 0, []⟩ : EV.Ctx) P w mg base 1 "InvalidName" 1 ["value"] ["value"] [0] := by
      obtain ⟨its, b⟩ := b_ew_InvalidName
      exact ⟨.val, f_InvalidName, _, _, _, _, PySem.W.mg_of X G ac_InvalidName, errB_ok eb_InvalidName, ai_InvalidName, ti_InvalidName, fldB_ok nf_InvalidName, G_InvalidName, b, fun x zs h => match zs, h with | [_], _ => rfl⟩
  have G_InvalidPath := ok_InvalidPath (P := P) (w := w) (base := base) (C := ⟨K, fun i => ([] : List Addr).getD i 0, fun i => ([C_MeantError, C_InvalidName, C_InvalidPath, C_InvalidArguments, C_InvalidProgram, C_InvalidOrder, C_InvalidChoices, C_InvalidPlace, C_InvalidFact, C_InvalidProtected, C_InvalidCount, C_InvalidText, C_InvalidCommand, C_UnknownPlace, C_UnknownModule, C_UnknownCall, C_UnknownFunction, C_UnknownWorker, C_Unsteady, C_NotReady, C_NoMeaning, C_Protected, C_Missing, C_Circular, C_NameTaken, C_CallTaken, C_Busy, C_Idle, C_Turned, C_NothingToUndo, C_CommandFailed, C_TooMany] : List Addr).getD i 0, []⟩) TT FD_InvalidPath
  have er_InvalidPath : ErrOk (⟨K, fun i => ([] : List Addr).getD i 0, fun i => ([C_MeantError, C_InvalidName, C_InvalidPath, C_InvalidArguments, C_InvalidProgram, C_InvalidOrder, C_InvalidChoices, C_InvalidPlace, C_InvalidFact, C_InvalidProtected, C_InvalidCount, C_InvalidText, C_InvalidCommand, C_UnknownPlace, C_UnknownModule, C_UnknownCall, C_UnknownFunction, C_UnknownWorker, C_Unsteady, C_NotReady, C_NoMeaning, C_Protected, C_Missing, C_Circular, C_NameTaken, C_CallTaken, C_Busy, C_Idle, C_Turned, C_NothingToUndo, C_CommandFailed, C_TooMany] : List Addr).getD i 0, []⟩ : EV.Ctx) P w mg base 1 "InvalidPath" 2 ["value"] := ⟨.val, f_InvalidPath, _, _, PySem.W.mg_of X G ac_InvalidPath, errB_ok eb_InvalidPath, ai_InvalidPath, ti_InvalidPath, fldB_ok nf_InvalidPath, G_InvalidPath, b_er_InvalidPath, rfl⟩
  have ew_InvalidPath : ErrKw (⟨K, fun i => ([] : List Addr).getD i 0, fun i => ([C_MeantError, C_InvalidName, C_InvalidPath, C_InvalidArguments, C_InvalidProgram, C_InvalidOrder, C_InvalidChoices, C_InvalidPlace, C_InvalidFact, C_InvalidProtected, C_InvalidCount, C_InvalidText, C_InvalidCommand, C_UnknownPlace, C_UnknownModule, C_UnknownCall, C_UnknownFunction, C_UnknownWorker, C_Unsteady, C_NotReady, C_NoMeaning, C_Protected, C_Missing, C_Circular, C_NameTaken, C_CallTaken, C_Busy, C_Idle, C_Turned, C_NothingToUndo, C_CommandFailed, C_TooMany] : List Addr).getD i 0, []⟩ : EV.Ctx) P w mg base 1 "InvalidPath" 2 ["value"] ["value"] [0] := by
      obtain ⟨its, b⟩ := b_ew_InvalidPath
      exact ⟨.val, f_InvalidPath, _, _, _, _, PySem.W.mg_of X G ac_InvalidPath, errB_ok eb_InvalidPath, ai_InvalidPath, ti_InvalidPath, fldB_ok nf_InvalidPath, G_InvalidPath, b, fun x zs h => match zs, h with | [_], _ => rfl⟩
  have G_InvalidArguments := ok_InvalidArguments (P := P) (w := w) (base := base) (C := ⟨K, fun i => ([] : List Addr).getD i 0, fun i => ([C_MeantError, C_InvalidName, C_InvalidPath, C_InvalidArguments, C_InvalidProgram, C_InvalidOrder, C_InvalidChoices, C_InvalidPlace, C_InvalidFact, C_InvalidProtected, C_InvalidCount, C_InvalidText, C_InvalidCommand, C_UnknownPlace, C_UnknownModule, C_UnknownCall, C_UnknownFunction, C_UnknownWorker, C_Unsteady, C_NotReady, C_NoMeaning, C_Protected, C_Missing, C_Circular, C_NameTaken, C_CallTaken, C_Busy, C_Idle, C_Turned, C_NothingToUndo, C_CommandFailed, C_TooMany] : List Addr).getD i 0, []⟩) TT FD_InvalidArguments
  have er_InvalidArguments : ErrOk (⟨K, fun i => ([] : List Addr).getD i 0, fun i => ([C_MeantError, C_InvalidName, C_InvalidPath, C_InvalidArguments, C_InvalidProgram, C_InvalidOrder, C_InvalidChoices, C_InvalidPlace, C_InvalidFact, C_InvalidProtected, C_InvalidCount, C_InvalidText, C_InvalidCommand, C_UnknownPlace, C_UnknownModule, C_UnknownCall, C_UnknownFunction, C_UnknownWorker, C_Unsteady, C_NotReady, C_NoMeaning, C_Protected, C_Missing, C_Circular, C_NameTaken, C_CallTaken, C_Busy, C_Idle, C_Turned, C_NothingToUndo, C_CommandFailed, C_TooMany] : List Addr).getD i 0, []⟩ : EV.Ctx) P w mg base 1 "InvalidArguments" 3 ["value"] := ⟨.val, f_InvalidArguments, _, _, PySem.W.mg_of X G ac_InvalidArguments, errB_ok eb_InvalidArguments, ai_InvalidArguments, ti_InvalidArguments, fldB_ok nf_InvalidArguments, G_InvalidArguments, b_er_InvalidArguments, rfl⟩
  have ew_InvalidArguments : ErrKw (⟨K, fun i => ([] : List Addr).getD i 0, fun i => ([C_MeantError, C_InvalidName, C_InvalidPath, C_InvalidArguments, C_InvalidProgram, C_InvalidOrder, C_InvalidChoices, C_InvalidPlace, C_InvalidFact, C_InvalidProtected, C_InvalidCount, C_InvalidText, C_InvalidCommand, C_UnknownPlace, C_UnknownModule, C_UnknownCall, C_UnknownFunction, C_UnknownWorker, C_Unsteady, C_NotReady, C_NoMeaning, C_Protected, C_Missing, C_Circular, C_NameTaken, C_CallTaken, C_Busy, C_Idle, C_Turned, C_NothingToUndo, C_CommandFailed, C_TooMany] : List Addr).getD i 0, []⟩ : EV.Ctx) P w mg base 1 "InvalidArguments" 3 ["value"] ["value"] [0] := by
      obtain ⟨its, b⟩ := b_ew_InvalidArguments
      exact ⟨.val, f_InvalidArguments, _, _, _, _, PySem.W.mg_of X G ac_InvalidArguments, errB_ok eb_InvalidArguments, ai_InvalidArguments, ti_InvalidArguments, fldB_ok nf_InvalidArguments, G_InvalidArguments, b, fun x zs h => match zs, h with | [_], _ => rfl⟩
  have G_InvalidProgram := ok_InvalidProgram (P := P) (w := w) (base := base) (C := ⟨K, fun i => ([] : List Addr).getD i 0, fun i => ([C_MeantError, C_InvalidName, C_InvalidPath, C_InvalidArguments, C_InvalidProgram, C_InvalidOrder, C_InvalidChoices, C_InvalidPlace, C_InvalidFact, C_InvalidProtected, C_InvalidCount, C_InvalidText, C_InvalidCommand, C_UnknownPlace, C_UnknownModule, C_UnknownCall, C_UnknownFunction, C_UnknownWorker, C_Unsteady, C_NotReady, C_NoMeaning, C_Protected, C_Missing, C_Circular, C_NameTaken, C_CallTaken, C_Busy, C_Idle, C_Turned, C_NothingToUndo, C_CommandFailed, C_TooMany] : List Addr).getD i 0, []⟩) TT FD_InvalidProgram
  have er_InvalidProgram : ErrOk (⟨K, fun i => ([] : List Addr).getD i 0, fun i => ([C_MeantError, C_InvalidName, C_InvalidPath, C_InvalidArguments, C_InvalidProgram, C_InvalidOrder, C_InvalidChoices, C_InvalidPlace, C_InvalidFact, C_InvalidProtected, C_InvalidCount, C_InvalidText, C_InvalidCommand, C_UnknownPlace, C_UnknownModule, C_UnknownCall, C_UnknownFunction, C_UnknownWorker, C_Unsteady, C_NotReady, C_NoMeaning, C_Protected, C_Missing, C_Circular, C_NameTaken, C_CallTaken, C_Busy, C_Idle, C_Turned, C_NothingToUndo, C_CommandFailed, C_TooMany] : List Addr).getD i 0, []⟩ : EV.Ctx) P w mg base 1 "InvalidProgram" 4 ["problem", "place"] := ⟨.val, f_InvalidProgram, _, _, PySem.W.mg_of X G ac_InvalidProgram, errB_ok eb_InvalidProgram, ai_InvalidProgram, ti_InvalidProgram, fldB_ok nf_InvalidProgram, G_InvalidProgram, b_er_InvalidProgram, rfl⟩
  have ew_InvalidProgram : ErrKw (⟨K, fun i => ([] : List Addr).getD i 0, fun i => ([C_MeantError, C_InvalidName, C_InvalidPath, C_InvalidArguments, C_InvalidProgram, C_InvalidOrder, C_InvalidChoices, C_InvalidPlace, C_InvalidFact, C_InvalidProtected, C_InvalidCount, C_InvalidText, C_InvalidCommand, C_UnknownPlace, C_UnknownModule, C_UnknownCall, C_UnknownFunction, C_UnknownWorker, C_Unsteady, C_NotReady, C_NoMeaning, C_Protected, C_Missing, C_Circular, C_NameTaken, C_CallTaken, C_Busy, C_Idle, C_Turned, C_NothingToUndo, C_CommandFailed, C_TooMany] : List Addr).getD i 0, []⟩ : EV.Ctx) P w mg base 1 "InvalidProgram" 4 ["problem", "place"] ["place", "problem"] [1, 0] := by
      obtain ⟨its, b⟩ := b_ew_InvalidProgram
      exact ⟨.val, f_InvalidProgram, _, _, _, _, PySem.W.mg_of X G ac_InvalidProgram, errB_ok eb_InvalidProgram, ai_InvalidProgram, ti_InvalidProgram, fldB_ok nf_InvalidProgram, G_InvalidProgram, b, fun x zs h => match zs, h with | [_, _], _ => rfl⟩
  have G_InvalidOrder := ok_InvalidOrder (P := P) (w := w) (base := base) (C := ⟨K, fun i => ([] : List Addr).getD i 0, fun i => ([C_MeantError, C_InvalidName, C_InvalidPath, C_InvalidArguments, C_InvalidProgram, C_InvalidOrder, C_InvalidChoices, C_InvalidPlace, C_InvalidFact, C_InvalidProtected, C_InvalidCount, C_InvalidText, C_InvalidCommand, C_UnknownPlace, C_UnknownModule, C_UnknownCall, C_UnknownFunction, C_UnknownWorker, C_Unsteady, C_NotReady, C_NoMeaning, C_Protected, C_Missing, C_Circular, C_NameTaken, C_CallTaken, C_Busy, C_Idle, C_Turned, C_NothingToUndo, C_CommandFailed, C_TooMany] : List Addr).getD i 0, []⟩) TT FD_InvalidOrder
  have er_InvalidOrder : ErrOk (⟨K, fun i => ([] : List Addr).getD i 0, fun i => ([C_MeantError, C_InvalidName, C_InvalidPath, C_InvalidArguments, C_InvalidProgram, C_InvalidOrder, C_InvalidChoices, C_InvalidPlace, C_InvalidFact, C_InvalidProtected, C_InvalidCount, C_InvalidText, C_InvalidCommand, C_UnknownPlace, C_UnknownModule, C_UnknownCall, C_UnknownFunction, C_UnknownWorker, C_Unsteady, C_NotReady, C_NoMeaning, C_Protected, C_Missing, C_Circular, C_NameTaken, C_CallTaken, C_Busy, C_Idle, C_Turned, C_NothingToUndo, C_CommandFailed, C_TooMany] : List Addr).getD i 0, []⟩ : EV.Ctx) P w mg base 1 "InvalidOrder" 5 ["position"] := ⟨.val, f_InvalidOrder, _, _, PySem.W.mg_of X G ac_InvalidOrder, errB_ok eb_InvalidOrder, ai_InvalidOrder, ti_InvalidOrder, fldB_ok nf_InvalidOrder, G_InvalidOrder, b_er_InvalidOrder, rfl⟩
  have ew_InvalidOrder : ErrKw (⟨K, fun i => ([] : List Addr).getD i 0, fun i => ([C_MeantError, C_InvalidName, C_InvalidPath, C_InvalidArguments, C_InvalidProgram, C_InvalidOrder, C_InvalidChoices, C_InvalidPlace, C_InvalidFact, C_InvalidProtected, C_InvalidCount, C_InvalidText, C_InvalidCommand, C_UnknownPlace, C_UnknownModule, C_UnknownCall, C_UnknownFunction, C_UnknownWorker, C_Unsteady, C_NotReady, C_NoMeaning, C_Protected, C_Missing, C_Circular, C_NameTaken, C_CallTaken, C_Busy, C_Idle, C_Turned, C_NothingToUndo, C_CommandFailed, C_TooMany] : List Addr).getD i 0, []⟩ : EV.Ctx) P w mg base 1 "InvalidOrder" 5 ["position"] ["position"] [0] := by
      obtain ⟨its, b⟩ := b_ew_InvalidOrder
      exact ⟨.val, f_InvalidOrder, _, _, _, _, PySem.W.mg_of X G ac_InvalidOrder, errB_ok eb_InvalidOrder, ai_InvalidOrder, ti_InvalidOrder, fldB_ok nf_InvalidOrder, G_InvalidOrder, b, fun x zs h => match zs, h with | [_], _ => rfl⟩
  have G_InvalidChoices := ok_InvalidChoices (P := P) (w := w) (base := base) (C := ⟨K, fun i => ([] : List Addr).getD i 0, fun i => ([C_MeantError, C_InvalidName, C_InvalidPath, C_InvalidArguments, C_InvalidProgram, C_InvalidOrder, C_InvalidChoices, C_InvalidPlace, C_InvalidFact, C_InvalidProtected, C_InvalidCount, C_InvalidText, C_InvalidCommand, C_UnknownPlace, C_UnknownModule, C_UnknownCall, C_UnknownFunction, C_UnknownWorker, C_Unsteady, C_NotReady, C_NoMeaning, C_Protected, C_Missing, C_Circular, C_NameTaken, C_CallTaken, C_Busy, C_Idle, C_Turned, C_NothingToUndo, C_CommandFailed, C_TooMany] : List Addr).getD i 0, []⟩) TT FD_InvalidChoices
  have er_InvalidChoices : ErrOk (⟨K, fun i => ([] : List Addr).getD i 0, fun i => ([C_MeantError, C_InvalidName, C_InvalidPath, C_InvalidArguments, C_InvalidProgram, C_InvalidOrder, C_InvalidChoices, C_InvalidPlace, C_InvalidFact, C_InvalidProtected, C_InvalidCount, C_InvalidText, C_InvalidCommand, C_UnknownPlace, C_UnknownModule, C_UnknownCall, C_UnknownFunction, C_UnknownWorker, C_Unsteady, C_NotReady, C_NoMeaning, C_Protected, C_Missing, C_Circular, C_NameTaken, C_CallTaken, C_Busy, C_Idle, C_Turned, C_NothingToUndo, C_CommandFailed, C_TooMany] : List Addr).getD i 0, []⟩ : EV.Ctx) P w mg base 1 "InvalidChoices" 6 ["value"] := ⟨.val, f_InvalidChoices, _, _, PySem.W.mg_of X G ac_InvalidChoices, errB_ok eb_InvalidChoices, ai_InvalidChoices, ti_InvalidChoices, fldB_ok nf_InvalidChoices, G_InvalidChoices, b_er_InvalidChoices, rfl⟩
  have ew_InvalidChoices : ErrKw (⟨K, fun i => ([] : List Addr).getD i 0, fun i => ([C_MeantError, C_InvalidName, C_InvalidPath, C_InvalidArguments, C_InvalidProgram, C_InvalidOrder, C_InvalidChoices, C_InvalidPlace, C_InvalidFact, C_InvalidProtected, C_InvalidCount, C_InvalidText, C_InvalidCommand, C_UnknownPlace, C_UnknownModule, C_UnknownCall, C_UnknownFunction, C_UnknownWorker, C_Unsteady, C_NotReady, C_NoMeaning, C_Protected, C_Missing, C_Circular, C_NameTaken, C_CallTaken, C_Busy, C_Idle, C_Turned, C_NothingToUndo, C_CommandFailed, C_TooMany] : List Addr).getD i 0, []⟩ : EV.Ctx) P w mg base 1 "InvalidChoices" 6 ["value"] ["value"] [0] := by
      obtain ⟨its, b⟩ := b_ew_InvalidChoices
      exact ⟨.val, f_InvalidChoices, _, _, _, _, PySem.W.mg_of X G ac_InvalidChoices, errB_ok eb_InvalidChoices, ai_InvalidChoices, ti_InvalidChoices, fldB_ok nf_InvalidChoices, G_InvalidChoices, b, fun x zs h => match zs, h with | [_], _ => rfl⟩
  have G_InvalidPlace := ok_InvalidPlace (P := P) (w := w) (base := base) (C := ⟨K, fun i => ([] : List Addr).getD i 0, fun i => ([C_MeantError, C_InvalidName, C_InvalidPath, C_InvalidArguments, C_InvalidProgram, C_InvalidOrder, C_InvalidChoices, C_InvalidPlace, C_InvalidFact, C_InvalidProtected, C_InvalidCount, C_InvalidText, C_InvalidCommand, C_UnknownPlace, C_UnknownModule, C_UnknownCall, C_UnknownFunction, C_UnknownWorker, C_Unsteady, C_NotReady, C_NoMeaning, C_Protected, C_Missing, C_Circular, C_NameTaken, C_CallTaken, C_Busy, C_Idle, C_Turned, C_NothingToUndo, C_CommandFailed, C_TooMany] : List Addr).getD i 0, []⟩) TT FD_InvalidPlace
  have er_InvalidPlace : ErrOk (⟨K, fun i => ([] : List Addr).getD i 0, fun i => ([C_MeantError, C_InvalidName, C_InvalidPath, C_InvalidArguments, C_InvalidProgram, C_InvalidOrder, C_InvalidChoices, C_InvalidPlace, C_InvalidFact, C_InvalidProtected, C_InvalidCount, C_InvalidText, C_InvalidCommand, C_UnknownPlace, C_UnknownModule, C_UnknownCall, C_UnknownFunction, C_UnknownWorker, C_Unsteady, C_NotReady, C_NoMeaning, C_Protected, C_Missing, C_Circular, C_NameTaken, C_CallTaken, C_Busy, C_Idle, C_Turned, C_NothingToUndo, C_CommandFailed, C_TooMany] : List Addr).getD i 0, []⟩ : EV.Ctx) P w mg base 1 "InvalidPlace" 7 ["value"] := ⟨.val, f_InvalidPlace, _, _, PySem.W.mg_of X G ac_InvalidPlace, errB_ok eb_InvalidPlace, ai_InvalidPlace, ti_InvalidPlace, fldB_ok nf_InvalidPlace, G_InvalidPlace, b_er_InvalidPlace, rfl⟩
  have ew_InvalidPlace : ErrKw (⟨K, fun i => ([] : List Addr).getD i 0, fun i => ([C_MeantError, C_InvalidName, C_InvalidPath, C_InvalidArguments, C_InvalidProgram, C_InvalidOrder, C_InvalidChoices, C_InvalidPlace, C_InvalidFact, C_InvalidProtected, C_InvalidCount, C_InvalidText, C_InvalidCommand, C_UnknownPlace, C_UnknownModule, C_UnknownCall, C_UnknownFunction, C_UnknownWorker, C_Unsteady, C_NotReady, C_NoMeaning, C_Protected, C_Missing, C_Circular, C_NameTaken, C_CallTaken, C_Busy, C_Idle, C_Turned, C_NothingToUndo, C_CommandFailed, C_TooMany] : List Addr).getD i 0, []⟩ : EV.Ctx) P w mg base 1 "InvalidPlace" 7 ["value"] ["value"] [0] := by
      obtain ⟨its, b⟩ := b_ew_InvalidPlace
      exact ⟨.val, f_InvalidPlace, _, _, _, _, PySem.W.mg_of X G ac_InvalidPlace, errB_ok eb_InvalidPlace, ai_InvalidPlace, ti_InvalidPlace, fldB_ok nf_InvalidPlace, G_InvalidPlace, b, fun x zs h => match zs, h with | [_], _ => rfl⟩
  have G_InvalidFact := ok_InvalidFact (P := P) (w := w) (base := base) (C := ⟨K, fun i => ([] : List Addr).getD i 0, fun i => ([C_MeantError, C_InvalidName, C_InvalidPath, C_InvalidArguments, C_InvalidProgram, C_InvalidOrder, C_InvalidChoices, C_InvalidPlace, C_InvalidFact, C_InvalidProtected, C_InvalidCount, C_InvalidText, C_InvalidCommand, C_UnknownPlace, C_UnknownModule, C_UnknownCall, C_UnknownFunction, C_UnknownWorker, C_Unsteady, C_NotReady, C_NoMeaning, C_Protected, C_Missing, C_Circular, C_NameTaken, C_CallTaken, C_Busy, C_Idle, C_Turned, C_NothingToUndo, C_CommandFailed, C_TooMany] : List Addr).getD i 0, []⟩) TT FD_InvalidFact
  have er_InvalidFact : ErrOk (⟨K, fun i => ([] : List Addr).getD i 0, fun i => ([C_MeantError, C_InvalidName, C_InvalidPath, C_InvalidArguments, C_InvalidProgram, C_InvalidOrder, C_InvalidChoices, C_InvalidPlace, C_InvalidFact, C_InvalidProtected, C_InvalidCount, C_InvalidText, C_InvalidCommand, C_UnknownPlace, C_UnknownModule, C_UnknownCall, C_UnknownFunction, C_UnknownWorker, C_Unsteady, C_NotReady, C_NoMeaning, C_Protected, C_Missing, C_Circular, C_NameTaken, C_CallTaken, C_Busy, C_Idle, C_Turned, C_NothingToUndo, C_CommandFailed, C_TooMany] : List Addr).getD i 0, []⟩ : EV.Ctx) P w mg base 1 "InvalidFact" 8 ["value"] := ⟨.val, f_InvalidFact, _, _, PySem.W.mg_of X G ac_InvalidFact, errB_ok eb_InvalidFact, ai_InvalidFact, ti_InvalidFact, fldB_ok nf_InvalidFact, G_InvalidFact, b_er_InvalidFact, rfl⟩
  have ew_InvalidFact : ErrKw (⟨K, fun i => ([] : List Addr).getD i 0, fun i => ([C_MeantError, C_InvalidName, C_InvalidPath, C_InvalidArguments, C_InvalidProgram, C_InvalidOrder, C_InvalidChoices, C_InvalidPlace, C_InvalidFact, C_InvalidProtected, C_InvalidCount, C_InvalidText, C_InvalidCommand, C_UnknownPlace, C_UnknownModule, C_UnknownCall, C_UnknownFunction, C_UnknownWorker, C_Unsteady, C_NotReady, C_NoMeaning, C_Protected, C_Missing, C_Circular, C_NameTaken, C_CallTaken, C_Busy, C_Idle, C_Turned, C_NothingToUndo, C_CommandFailed, C_TooMany] : List Addr).getD i 0, []⟩ : EV.Ctx) P w mg base 1 "InvalidFact" 8 ["value"] ["value"] [0] := by
      obtain ⟨its, b⟩ := b_ew_InvalidFact
      exact ⟨.val, f_InvalidFact, _, _, _, _, PySem.W.mg_of X G ac_InvalidFact, errB_ok eb_InvalidFact, ai_InvalidFact, ti_InvalidFact, fldB_ok nf_InvalidFact, G_InvalidFact, b, fun x zs h => match zs, h with | [_], _ => rfl⟩
  have G_InvalidProtected := ok_InvalidProtected (P := P) (w := w) (base := base) (C := ⟨K, fun i => ([] : List Addr).getD i 0, fun i => ([C_MeantError, C_InvalidName, C_InvalidPath, C_InvalidArguments, C_InvalidProgram, C_InvalidOrder, C_InvalidChoices, C_InvalidPlace, C_InvalidFact, C_InvalidProtected, C_InvalidCount, C_InvalidText, C_InvalidCommand, C_UnknownPlace, C_UnknownModule, C_UnknownCall, C_UnknownFunction, C_UnknownWorker, C_Unsteady, C_NotReady, C_NoMeaning, C_Protected, C_Missing, C_Circular, C_NameTaken, C_CallTaken, C_Busy, C_Idle, C_Turned, C_NothingToUndo, C_CommandFailed, C_TooMany] : List Addr).getD i 0, []⟩) TT FD_InvalidProtected
  have er_InvalidProtected : ErrOk (⟨K, fun i => ([] : List Addr).getD i 0, fun i => ([C_MeantError, C_InvalidName, C_InvalidPath, C_InvalidArguments, C_InvalidProgram, C_InvalidOrder, C_InvalidChoices, C_InvalidPlace, C_InvalidFact, C_InvalidProtected, C_InvalidCount, C_InvalidText, C_InvalidCommand, C_UnknownPlace, C_UnknownModule, C_UnknownCall, C_UnknownFunction, C_UnknownWorker, C_Unsteady, C_NotReady, C_NoMeaning, C_Protected, C_Missing, C_Circular, C_NameTaken, C_CallTaken, C_Busy, C_Idle, C_Turned, C_NothingToUndo, C_CommandFailed, C_TooMany] : List Addr).getD i 0, []⟩ : EV.Ctx) P w mg base 1 "InvalidProtected" 9 ["value"] := ⟨.val, f_InvalidProtected, _, _, PySem.W.mg_of X G ac_InvalidProtected, errB_ok eb_InvalidProtected, ai_InvalidProtected, ti_InvalidProtected, fldB_ok nf_InvalidProtected, G_InvalidProtected, b_er_InvalidProtected, rfl⟩
  have ew_InvalidProtected : ErrKw (⟨K, fun i => ([] : List Addr).getD i 0, fun i => ([C_MeantError, C_InvalidName, C_InvalidPath, C_InvalidArguments, C_InvalidProgram, C_InvalidOrder, C_InvalidChoices, C_InvalidPlace, C_InvalidFact, C_InvalidProtected, C_InvalidCount, C_InvalidText, C_InvalidCommand, C_UnknownPlace, C_UnknownModule, C_UnknownCall, C_UnknownFunction, C_UnknownWorker, C_Unsteady, C_NotReady, C_NoMeaning, C_Protected, C_Missing, C_Circular, C_NameTaken, C_CallTaken, C_Busy, C_Idle, C_Turned, C_NothingToUndo, C_CommandFailed, C_TooMany] : List Addr).getD i 0, []⟩ : EV.Ctx) P w mg base 1 "InvalidProtected" 9 ["value"] ["value"] [0] := by
      obtain ⟨its, b⟩ := b_ew_InvalidProtected
      exact ⟨.val, f_InvalidProtected, _, _, _, _, PySem.W.mg_of X G ac_InvalidProtected, errB_ok eb_InvalidProtected, ai_InvalidProtected, ti_InvalidProtected, fldB_ok nf_InvalidProtected, G_InvalidProtected, b, fun x zs h => match zs, h with | [_], _ => rfl⟩
  have G_InvalidCount := ok_InvalidCount (P := P) (w := w) (base := base) (C := ⟨K, fun i => ([] : List Addr).getD i 0, fun i => ([C_MeantError, C_InvalidName, C_InvalidPath, C_InvalidArguments, C_InvalidProgram, C_InvalidOrder, C_InvalidChoices, C_InvalidPlace, C_InvalidFact, C_InvalidProtected, C_InvalidCount, C_InvalidText, C_InvalidCommand, C_UnknownPlace, C_UnknownModule, C_UnknownCall, C_UnknownFunction, C_UnknownWorker, C_Unsteady, C_NotReady, C_NoMeaning, C_Protected, C_Missing, C_Circular, C_NameTaken, C_CallTaken, C_Busy, C_Idle, C_Turned, C_NothingToUndo, C_CommandFailed, C_TooMany] : List Addr).getD i 0, []⟩) TT FD_InvalidCount
  have er_InvalidCount : ErrOk (⟨K, fun i => ([] : List Addr).getD i 0, fun i => ([C_MeantError, C_InvalidName, C_InvalidPath, C_InvalidArguments, C_InvalidProgram, C_InvalidOrder, C_InvalidChoices, C_InvalidPlace, C_InvalidFact, C_InvalidProtected, C_InvalidCount, C_InvalidText, C_InvalidCommand, C_UnknownPlace, C_UnknownModule, C_UnknownCall, C_UnknownFunction, C_UnknownWorker, C_Unsteady, C_NotReady, C_NoMeaning, C_Protected, C_Missing, C_Circular, C_NameTaken, C_CallTaken, C_Busy, C_Idle, C_Turned, C_NothingToUndo, C_CommandFailed, C_TooMany] : List Addr).getD i 0, []⟩ : EV.Ctx) P w mg base 1 "InvalidCount" 10 ["value"] := ⟨.val, f_InvalidCount, _, _, PySem.W.mg_of X G ac_InvalidCount, errB_ok eb_InvalidCount, ai_InvalidCount, ti_InvalidCount, fldB_ok nf_InvalidCount, G_InvalidCount, b_er_InvalidCount, rfl⟩
  have ew_InvalidCount : ErrKw (⟨K, fun i => ([] : List Addr).getD i 0, fun i => ([C_MeantError, C_InvalidName, C_InvalidPath, C_InvalidArguments, C_InvalidProgram, C_InvalidOrder, C_InvalidChoices, C_InvalidPlace, C_InvalidFact, C_InvalidProtected, C_InvalidCount, C_InvalidText, C_InvalidCommand, C_UnknownPlace, C_UnknownModule, C_UnknownCall, C_UnknownFunction, C_UnknownWorker, C_Unsteady, C_NotReady, C_NoMeaning, C_Protected, C_Missing, C_Circular, C_NameTaken, C_CallTaken, C_Busy, C_Idle, C_Turned, C_NothingToUndo, C_CommandFailed, C_TooMany] : List Addr).getD i 0, []⟩ : EV.Ctx) P w mg base 1 "InvalidCount" 10 ["value"] ["value"] [0] := by
      obtain ⟨its, b⟩ := b_ew_InvalidCount
      exact ⟨.val, f_InvalidCount, _, _, _, _, PySem.W.mg_of X G ac_InvalidCount, errB_ok eb_InvalidCount, ai_InvalidCount, ti_InvalidCount, fldB_ok nf_InvalidCount, G_InvalidCount, b, fun x zs h => match zs, h with | [_], _ => rfl⟩
  have G_InvalidText := ok_InvalidText (P := P) (w := w) (base := base) (C := ⟨K, fun i => ([] : List Addr).getD i 0, fun i => ([C_MeantError, C_InvalidName, C_InvalidPath, C_InvalidArguments, C_InvalidProgram, C_InvalidOrder, C_InvalidChoices, C_InvalidPlace, C_InvalidFact, C_InvalidProtected, C_InvalidCount, C_InvalidText, C_InvalidCommand, C_UnknownPlace, C_UnknownModule, C_UnknownCall, C_UnknownFunction, C_UnknownWorker, C_Unsteady, C_NotReady, C_NoMeaning, C_Protected, C_Missing, C_Circular, C_NameTaken, C_CallTaken, C_Busy, C_Idle, C_Turned, C_NothingToUndo, C_CommandFailed, C_TooMany] : List Addr).getD i 0, []⟩) TT FD_InvalidText
  have er_InvalidText : ErrOk (⟨K, fun i => ([] : List Addr).getD i 0, fun i => ([C_MeantError, C_InvalidName, C_InvalidPath, C_InvalidArguments, C_InvalidProgram, C_InvalidOrder, C_InvalidChoices, C_InvalidPlace, C_InvalidFact, C_InvalidProtected, C_InvalidCount, C_InvalidText, C_InvalidCommand, C_UnknownPlace, C_UnknownModule, C_UnknownCall, C_UnknownFunction, C_UnknownWorker, C_Unsteady, C_NotReady, C_NoMeaning, C_Protected, C_Missing, C_Circular, C_NameTaken, C_CallTaken, C_Busy, C_Idle, C_Turned, C_NothingToUndo, C_CommandFailed, C_TooMany] : List Addr).getD i 0, []⟩ : EV.Ctx) P w mg base 1 "InvalidText" 11 ["line"] := ⟨.val, f_InvalidText, _, _, PySem.W.mg_of X G ac_InvalidText, errB_ok eb_InvalidText, ai_InvalidText, ti_InvalidText, fldB_ok nf_InvalidText, G_InvalidText, b_er_InvalidText, rfl⟩
  have ew_InvalidText : ErrKw (⟨K, fun i => ([] : List Addr).getD i 0, fun i => ([C_MeantError, C_InvalidName, C_InvalidPath, C_InvalidArguments, C_InvalidProgram, C_InvalidOrder, C_InvalidChoices, C_InvalidPlace, C_InvalidFact, C_InvalidProtected, C_InvalidCount, C_InvalidText, C_InvalidCommand, C_UnknownPlace, C_UnknownModule, C_UnknownCall, C_UnknownFunction, C_UnknownWorker, C_Unsteady, C_NotReady, C_NoMeaning, C_Protected, C_Missing, C_Circular, C_NameTaken, C_CallTaken, C_Busy, C_Idle, C_Turned, C_NothingToUndo, C_CommandFailed, C_TooMany] : List Addr).getD i 0, []⟩ : EV.Ctx) P w mg base 1 "InvalidText" 11 ["line"] ["line"] [0] := by
      obtain ⟨its, b⟩ := b_ew_InvalidText
      exact ⟨.val, f_InvalidText, _, _, _, _, PySem.W.mg_of X G ac_InvalidText, errB_ok eb_InvalidText, ai_InvalidText, ti_InvalidText, fldB_ok nf_InvalidText, G_InvalidText, b, fun x zs h => match zs, h with | [_], _ => rfl⟩
  have G_InvalidCommand := ok_InvalidCommand (P := P) (w := w) (base := base) (C := ⟨K, fun i => ([] : List Addr).getD i 0, fun i => ([C_MeantError, C_InvalidName, C_InvalidPath, C_InvalidArguments, C_InvalidProgram, C_InvalidOrder, C_InvalidChoices, C_InvalidPlace, C_InvalidFact, C_InvalidProtected, C_InvalidCount, C_InvalidText, C_InvalidCommand, C_UnknownPlace, C_UnknownModule, C_UnknownCall, C_UnknownFunction, C_UnknownWorker, C_Unsteady, C_NotReady, C_NoMeaning, C_Protected, C_Missing, C_Circular, C_NameTaken, C_CallTaken, C_Busy, C_Idle, C_Turned, C_NothingToUndo, C_CommandFailed, C_TooMany] : List Addr).getD i 0, []⟩) TT FD_InvalidCommand
  have er_InvalidCommand : ErrOk (⟨K, fun i => ([] : List Addr).getD i 0, fun i => ([C_MeantError, C_InvalidName, C_InvalidPath, C_InvalidArguments, C_InvalidProgram, C_InvalidOrder, C_InvalidChoices, C_InvalidPlace, C_InvalidFact, C_InvalidProtected, C_InvalidCount, C_InvalidText, C_InvalidCommand, C_UnknownPlace, C_UnknownModule, C_UnknownCall, C_UnknownFunction, C_UnknownWorker, C_Unsteady, C_NotReady, C_NoMeaning, C_Protected, C_Missing, C_Circular, C_NameTaken, C_CallTaken, C_Busy, C_Idle, C_Turned, C_NothingToUndo, C_CommandFailed, C_TooMany] : List Addr).getD i 0, []⟩ : EV.Ctx) P w mg base 1 "InvalidCommand" 12 ["value"] := ⟨.val, f_InvalidCommand, _, _, PySem.W.mg_of X G ac_InvalidCommand, errB_ok eb_InvalidCommand, ai_InvalidCommand, ti_InvalidCommand, fldB_ok nf_InvalidCommand, G_InvalidCommand, b_er_InvalidCommand, rfl⟩
  have ew_InvalidCommand : ErrKw (⟨K, fun i => ([] : List Addr).getD i 0, fun i => ([C_MeantError, C_InvalidName, C_InvalidPath, C_InvalidArguments, C_InvalidProgram, C_InvalidOrder, C_InvalidChoices, C_InvalidPlace, C_InvalidFact, C_InvalidProtected, C_InvalidCount, C_InvalidText, C_InvalidCommand, C_UnknownPlace, C_UnknownModule, C_UnknownCall, C_UnknownFunction, C_UnknownWorker, C_Unsteady, C_NotReady, C_NoMeaning, C_Protected, C_Missing, C_Circular, C_NameTaken, C_CallTaken, C_Busy, C_Idle, C_Turned, C_NothingToUndo, C_CommandFailed, C_TooMany] : List Addr).getD i 0, []⟩ : EV.Ctx) P w mg base 1 "InvalidCommand" 12 ["value"] ["value"] [0] := by
      obtain ⟨its, b⟩ := b_ew_InvalidCommand
      exact ⟨.val, f_InvalidCommand, _, _, _, _, PySem.W.mg_of X G ac_InvalidCommand, errB_ok eb_InvalidCommand, ai_InvalidCommand, ti_InvalidCommand, fldB_ok nf_InvalidCommand, G_InvalidCommand, b, fun x zs h => match zs, h with | [_], _ => rfl⟩
  have G_UnknownPlace := ok_UnknownPlace (P := P) (w := w) (base := base) (C := ⟨K, fun i => ([] : List Addr).getD i 0, fun i => ([C_MeantError, C_InvalidName, C_InvalidPath, C_InvalidArguments, C_InvalidProgram, C_InvalidOrder, C_InvalidChoices, C_InvalidPlace, C_InvalidFact, C_InvalidProtected, C_InvalidCount, C_InvalidText, C_InvalidCommand, C_UnknownPlace, C_UnknownModule, C_UnknownCall, C_UnknownFunction, C_UnknownWorker, C_Unsteady, C_NotReady, C_NoMeaning, C_Protected, C_Missing, C_Circular, C_NameTaken, C_CallTaken, C_Busy, C_Idle, C_Turned, C_NothingToUndo, C_CommandFailed, C_TooMany] : List Addr).getD i 0, []⟩) TT FD_UnknownPlace
  have er_UnknownPlace : ErrOk (⟨K, fun i => ([] : List Addr).getD i 0, fun i => ([C_MeantError, C_InvalidName, C_InvalidPath, C_InvalidArguments, C_InvalidProgram, C_InvalidOrder, C_InvalidChoices, C_InvalidPlace, C_InvalidFact, C_InvalidProtected, C_InvalidCount, C_InvalidText, C_InvalidCommand, C_UnknownPlace, C_UnknownModule, C_UnknownCall, C_UnknownFunction, C_UnknownWorker, C_Unsteady, C_NotReady, C_NoMeaning, C_Protected, C_Missing, C_Circular, C_NameTaken, C_CallTaken, C_Busy, C_Idle, C_Turned, C_NothingToUndo, C_CommandFailed, C_TooMany] : List Addr).getD i 0, []⟩ : EV.Ctx) P w mg base 1 "UnknownPlace" 13 ["value"] := ⟨.look, f_UnknownPlace, _, _, PySem.W.mg_of X G ac_UnknownPlace, errB_ok eb_UnknownPlace, ai_UnknownPlace, ti_UnknownPlace, fldB_ok nf_UnknownPlace, G_UnknownPlace, b_er_UnknownPlace, rfl⟩
  have ew_UnknownPlace : ErrKw (⟨K, fun i => ([] : List Addr).getD i 0, fun i => ([C_MeantError, C_InvalidName, C_InvalidPath, C_InvalidArguments, C_InvalidProgram, C_InvalidOrder, C_InvalidChoices, C_InvalidPlace, C_InvalidFact, C_InvalidProtected, C_InvalidCount, C_InvalidText, C_InvalidCommand, C_UnknownPlace, C_UnknownModule, C_UnknownCall, C_UnknownFunction, C_UnknownWorker, C_Unsteady, C_NotReady, C_NoMeaning, C_Protected, C_Missing, C_Circular, C_NameTaken, C_CallTaken, C_Busy, C_Idle, C_Turned, C_NothingToUndo, C_CommandFailed, C_TooMany] : List Addr).getD i 0, []⟩ : EV.Ctx) P w mg base 1 "UnknownPlace" 13 ["value"] ["value"] [0] := by
      obtain ⟨its, b⟩ := b_ew_UnknownPlace
      exact ⟨.look, f_UnknownPlace, _, _, _, _, PySem.W.mg_of X G ac_UnknownPlace, errB_ok eb_UnknownPlace, ai_UnknownPlace, ti_UnknownPlace, fldB_ok nf_UnknownPlace, G_UnknownPlace, b, fun x zs h => match zs, h with | [_], _ => rfl⟩
  have G_UnknownModule := ok_UnknownModule (P := P) (w := w) (base := base) (C := ⟨K, fun i => ([] : List Addr).getD i 0, fun i => ([C_MeantError, C_InvalidName, C_InvalidPath, C_InvalidArguments, C_InvalidProgram, C_InvalidOrder, C_InvalidChoices, C_InvalidPlace, C_InvalidFact, C_InvalidProtected, C_InvalidCount, C_InvalidText, C_InvalidCommand, C_UnknownPlace, C_UnknownModule, C_UnknownCall, C_UnknownFunction, C_UnknownWorker, C_Unsteady, C_NotReady, C_NoMeaning, C_Protected, C_Missing, C_Circular, C_NameTaken, C_CallTaken, C_Busy, C_Idle, C_Turned, C_NothingToUndo, C_CommandFailed, C_TooMany] : List Addr).getD i 0, []⟩) TT FD_UnknownModule
  have er_UnknownModule : ErrOk (⟨K, fun i => ([] : List Addr).getD i 0, fun i => ([C_MeantError, C_InvalidName, C_InvalidPath, C_InvalidArguments, C_InvalidProgram, C_InvalidOrder, C_InvalidChoices, C_InvalidPlace, C_InvalidFact, C_InvalidProtected, C_InvalidCount, C_InvalidText, C_InvalidCommand, C_UnknownPlace, C_UnknownModule, C_UnknownCall, C_UnknownFunction, C_UnknownWorker, C_Unsteady, C_NotReady, C_NoMeaning, C_Protected, C_Missing, C_Circular, C_NameTaken, C_CallTaken, C_Busy, C_Idle, C_Turned, C_NothingToUndo, C_CommandFailed, C_TooMany] : List Addr).getD i 0, []⟩ : EV.Ctx) P w mg base 1 "UnknownModule" 14 ["value"] := ⟨.look, f_UnknownModule, _, _, PySem.W.mg_of X G ac_UnknownModule, errB_ok eb_UnknownModule, ai_UnknownModule, ti_UnknownModule, fldB_ok nf_UnknownModule, G_UnknownModule, b_er_UnknownModule, rfl⟩
  have ew_UnknownModule : ErrKw (⟨K, fun i => ([] : List Addr).getD i 0, fun i => ([C_MeantError, C_InvalidName, C_InvalidPath, C_InvalidArguments, C_InvalidProgram, C_InvalidOrder, C_InvalidChoices, C_InvalidPlace, C_InvalidFact, C_InvalidProtected, C_InvalidCount, C_InvalidText, C_InvalidCommand, C_UnknownPlace, C_UnknownModule, C_UnknownCall, C_UnknownFunction, C_UnknownWorker, C_Unsteady, C_NotReady, C_NoMeaning, C_Protected, C_Missing, C_Circular, C_NameTaken, C_CallTaken, C_Busy, C_Idle, C_Turned, C_NothingToUndo, C_CommandFailed, C_TooMany] : List Addr).getD i 0, []⟩ : EV.Ctx) P w mg base 1 "UnknownModule" 14 ["value"] ["value"] [0] := by
      obtain ⟨its, b⟩ := b_ew_UnknownModule
      exact ⟨.look, f_UnknownModule, _, _, _, _, PySem.W.mg_of X G ac_UnknownModule, errB_ok eb_UnknownModule, ai_UnknownModule, ti_UnknownModule, fldB_ok nf_UnknownModule, G_UnknownModule, b, fun x zs h => match zs, h with | [_], _ => rfl⟩
  have G_UnknownCall := ok_UnknownCall (P := P) (w := w) (base := base) (C := ⟨K, fun i => ([] : List Addr).getD i 0, fun i => ([C_MeantError, C_InvalidName, C_InvalidPath, C_InvalidArguments, C_InvalidProgram, C_InvalidOrder, C_InvalidChoices, C_InvalidPlace, C_InvalidFact, C_InvalidProtected, C_InvalidCount, C_InvalidText, C_InvalidCommand, C_UnknownPlace, C_UnknownModule, C_UnknownCall, C_UnknownFunction, C_UnknownWorker, C_Unsteady, C_NotReady, C_NoMeaning, C_Protected, C_Missing, C_Circular, C_NameTaken, C_CallTaken, C_Busy, C_Idle, C_Turned, C_NothingToUndo, C_CommandFailed, C_TooMany] : List Addr).getD i 0, []⟩) TT FD_UnknownCall
  have er_UnknownCall : ErrOk (⟨K, fun i => ([] : List Addr).getD i 0, fun i => ([C_MeantError, C_InvalidName, C_InvalidPath, C_InvalidArguments, C_InvalidProgram, C_InvalidOrder, C_InvalidChoices, C_InvalidPlace, C_InvalidFact, C_InvalidProtected, C_InvalidCount, C_InvalidText, C_InvalidCommand, C_UnknownPlace, C_UnknownModule, C_UnknownCall, C_UnknownFunction, C_UnknownWorker, C_Unsteady, C_NotReady, C_NoMeaning, C_Protected, C_Missing, C_Circular, C_NameTaken, C_CallTaken, C_Busy, C_Idle, C_Turned, C_NothingToUndo, C_CommandFailed, C_TooMany] : List Addr).getD i 0, []⟩ : EV.Ctx) P w mg base 1 "UnknownCall" 15 ["value"] := ⟨.look, f_UnknownCall, _, _, PySem.W.mg_of X G ac_UnknownCall, errB_ok eb_UnknownCall, ai_UnknownCall, ti_UnknownCall, fldB_ok nf_UnknownCall, G_UnknownCall, b_er_UnknownCall, rfl⟩
  have ew_UnknownCall : ErrKw (⟨K, fun i => ([] : List Addr).getD i 0, fun i => ([C_MeantError, C_InvalidName, C_InvalidPath, C_InvalidArguments, C_InvalidProgram, C_InvalidOrder, C_InvalidChoices, C_InvalidPlace, C_InvalidFact, C_InvalidProtected, C_InvalidCount, C_InvalidText, C_InvalidCommand, C_UnknownPlace, C_UnknownModule, C_UnknownCall, C_UnknownFunction, C_UnknownWorker, C_Unsteady, C_NotReady, C_NoMeaning, C_Protected, C_Missing, C_Circular, C_NameTaken, C_CallTaken, C_Busy, C_Idle, C_Turned, C_NothingToUndo, C_CommandFailed, C_TooMany] : List Addr).getD i 0, []⟩ : EV.Ctx) P w mg base 1 "UnknownCall" 15 ["value"] ["value"] [0] := by
      obtain ⟨its, b⟩ := b_ew_UnknownCall
      exact ⟨.look, f_UnknownCall, _, _, _, _, PySem.W.mg_of X G ac_UnknownCall, errB_ok eb_UnknownCall, ai_UnknownCall, ti_UnknownCall, fldB_ok nf_UnknownCall, G_UnknownCall, b, fun x zs h => match zs, h with | [_], _ => rfl⟩
  have G_UnknownFunction := ok_UnknownFunction (P := P) (w := w) (base := base) (C := ⟨K, fun i => ([] : List Addr).getD i 0, fun i => ([C_MeantError, C_InvalidName, C_InvalidPath, C_InvalidArguments, C_InvalidProgram, C_InvalidOrder, C_InvalidChoices, C_InvalidPlace, C_InvalidFact, C_InvalidProtected, C_InvalidCount, C_InvalidText, C_InvalidCommand, C_UnknownPlace, C_UnknownModule, C_UnknownCall, C_UnknownFunction, C_UnknownWorker, C_Unsteady, C_NotReady, C_NoMeaning, C_Protected, C_Missing, C_Circular, C_NameTaken, C_CallTaken, C_Busy, C_Idle, C_Turned, C_NothingToUndo, C_CommandFailed, C_TooMany] : List Addr).getD i 0, []⟩) TT FD_UnknownFunction
  have er_UnknownFunction : ErrOk (⟨K, fun i => ([] : List Addr).getD i 0, fun i => ([C_MeantError, C_InvalidName, C_InvalidPath, C_InvalidArguments, C_InvalidProgram, C_InvalidOrder, C_InvalidChoices, C_InvalidPlace, C_InvalidFact, C_InvalidProtected, C_InvalidCount, C_InvalidText, C_InvalidCommand, C_UnknownPlace, C_UnknownModule, C_UnknownCall, C_UnknownFunction, C_UnknownWorker, C_Unsteady, C_NotReady, C_NoMeaning, C_Protected, C_Missing, C_Circular, C_NameTaken, C_CallTaken, C_Busy, C_Idle, C_Turned, C_NothingToUndo, C_CommandFailed, C_TooMany] : List Addr).getD i 0, []⟩ : EV.Ctx) P w mg base 1 "UnknownFunction" 16 ["value"] := ⟨.look, f_UnknownFunction, _, _, PySem.W.mg_of X G ac_UnknownFunction, errB_ok eb_UnknownFunction, ai_UnknownFunction, ti_UnknownFunction, fldB_ok nf_UnknownFunction, G_UnknownFunction, b_er_UnknownFunction, rfl⟩
  have ew_UnknownFunction : ErrKw (⟨K, fun i => ([] : List Addr).getD i 0, fun i => ([C_MeantError, C_InvalidName, C_InvalidPath, C_InvalidArguments, C_InvalidProgram, C_InvalidOrder, C_InvalidChoices, C_InvalidPlace, C_InvalidFact, C_InvalidProtected, C_InvalidCount, C_InvalidText, C_InvalidCommand, C_UnknownPlace, C_UnknownModule, C_UnknownCall, C_UnknownFunction, C_UnknownWorker, C_Unsteady, C_NotReady, C_NoMeaning, C_Protected, C_Missing, C_Circular, C_NameTaken, C_CallTaken, C_Busy, C_Idle, C_Turned, C_NothingToUndo, C_CommandFailed, C_TooMany] : List Addr).getD i 0, []⟩ : EV.Ctx) P w mg base 1 "UnknownFunction" 16 ["value"] ["value"] [0] := by
      obtain ⟨its, b⟩ := b_ew_UnknownFunction
      exact ⟨.look, f_UnknownFunction, _, _, _, _, PySem.W.mg_of X G ac_UnknownFunction, errB_ok eb_UnknownFunction, ai_UnknownFunction, ti_UnknownFunction, fldB_ok nf_UnknownFunction, G_UnknownFunction, b, fun x zs h => match zs, h with | [_], _ => rfl⟩
  have G_UnknownWorker := ok_UnknownWorker (P := P) (w := w) (base := base) (C := ⟨K, fun i => ([] : List Addr).getD i 0, fun i => ([C_MeantError, C_InvalidName, C_InvalidPath, C_InvalidArguments, C_InvalidProgram, C_InvalidOrder, C_InvalidChoices, C_InvalidPlace, C_InvalidFact, C_InvalidProtected, C_InvalidCount, C_InvalidText, C_InvalidCommand, C_UnknownPlace, C_UnknownModule, C_UnknownCall, C_UnknownFunction, C_UnknownWorker, C_Unsteady, C_NotReady, C_NoMeaning, C_Protected, C_Missing, C_Circular, C_NameTaken, C_CallTaken, C_Busy, C_Idle, C_Turned, C_NothingToUndo, C_CommandFailed, C_TooMany] : List Addr).getD i 0, []⟩) TT FD_UnknownWorker
  have er_UnknownWorker : ErrOk (⟨K, fun i => ([] : List Addr).getD i 0, fun i => ([C_MeantError, C_InvalidName, C_InvalidPath, C_InvalidArguments, C_InvalidProgram, C_InvalidOrder, C_InvalidChoices, C_InvalidPlace, C_InvalidFact, C_InvalidProtected, C_InvalidCount, C_InvalidText, C_InvalidCommand, C_UnknownPlace, C_UnknownModule, C_UnknownCall, C_UnknownFunction, C_UnknownWorker, C_Unsteady, C_NotReady, C_NoMeaning, C_Protected, C_Missing, C_Circular, C_NameTaken, C_CallTaken, C_Busy, C_Idle, C_Turned, C_NothingToUndo, C_CommandFailed, C_TooMany] : List Addr).getD i 0, []⟩ : EV.Ctx) P w mg base 1 "UnknownWorker" 17 ["value"] := ⟨.look, f_UnknownWorker, _, _, PySem.W.mg_of X G ac_UnknownWorker, errB_ok eb_UnknownWorker, ai_UnknownWorker, ti_UnknownWorker, fldB_ok nf_UnknownWorker, G_UnknownWorker, b_er_UnknownWorker, rfl⟩
  have ew_UnknownWorker : ErrKw (⟨K, fun i => ([] : List Addr).getD i 0, fun i => ([C_MeantError, C_InvalidName, C_InvalidPath, C_InvalidArguments, C_InvalidProgram, C_InvalidOrder, C_InvalidChoices, C_InvalidPlace, C_InvalidFact, C_InvalidProtected, C_InvalidCount, C_InvalidText, C_InvalidCommand, C_UnknownPlace, C_UnknownModule, C_UnknownCall, C_UnknownFunction, C_UnknownWorker, C_Unsteady, C_NotReady, C_NoMeaning, C_Protected, C_Missing, C_Circular, C_NameTaken, C_CallTaken, C_Busy, C_Idle, C_Turned, C_NothingToUndo, C_CommandFailed, C_TooMany] : List Addr).getD i 0, []⟩ : EV.Ctx) P w mg base 1 "UnknownWorker" 17 ["value"] ["value"] [0] := by
      obtain ⟨its, b⟩ := b_ew_UnknownWorker
      exact ⟨.look, f_UnknownWorker, _, _, _, _, PySem.W.mg_of X G ac_UnknownWorker, errB_ok eb_UnknownWorker, ai_UnknownWorker, ti_UnknownWorker, fldB_ok nf_UnknownWorker, G_UnknownWorker, b, fun x zs h => match zs, h with | [_], _ => rfl⟩
  have G_Unsteady := ok_Unsteady (P := P) (w := w) (base := base) (C := ⟨K, fun i => ([] : List Addr).getD i 0, fun i => ([C_MeantError, C_InvalidName, C_InvalidPath, C_InvalidArguments, C_InvalidProgram, C_InvalidOrder, C_InvalidChoices, C_InvalidPlace, C_InvalidFact, C_InvalidProtected, C_InvalidCount, C_InvalidText, C_InvalidCommand, C_UnknownPlace, C_UnknownModule, C_UnknownCall, C_UnknownFunction, C_UnknownWorker, C_Unsteady, C_NotReady, C_NoMeaning, C_Protected, C_Missing, C_Circular, C_NameTaken, C_CallTaken, C_Busy, C_Idle, C_Turned, C_NothingToUndo, C_CommandFailed, C_TooMany] : List Addr).getD i 0, []⟩) TT FD_Unsteady
  have er_Unsteady : ErrOk (⟨K, fun i => ([] : List Addr).getD i 0, fun i => ([C_MeantError, C_InvalidName, C_InvalidPath, C_InvalidArguments, C_InvalidProgram, C_InvalidOrder, C_InvalidChoices, C_InvalidPlace, C_InvalidFact, C_InvalidProtected, C_InvalidCount, C_InvalidText, C_InvalidCommand, C_UnknownPlace, C_UnknownModule, C_UnknownCall, C_UnknownFunction, C_UnknownWorker, C_Unsteady, C_NotReady, C_NoMeaning, C_Protected, C_Missing, C_Circular, C_NameTaken, C_CallTaken, C_Busy, C_Idle, C_Turned, C_NothingToUndo, C_CommandFailed, C_TooMany] : List Addr).getD i 0, []⟩ : EV.Ctx) P w mg base 1 "Unsteady" 18 ["certificate"] := ⟨.run, f_Unsteady, _, _, PySem.W.mg_of X G ac_Unsteady, errB_ok eb_Unsteady, ai_Unsteady, ti_Unsteady, fldB_ok nf_Unsteady, G_Unsteady, b_er_Unsteady, rfl⟩
  have ew_Unsteady : ErrKw (⟨K, fun i => ([] : List Addr).getD i 0, fun i => ([C_MeantError, C_InvalidName, C_InvalidPath, C_InvalidArguments, C_InvalidProgram, C_InvalidOrder, C_InvalidChoices, C_InvalidPlace, C_InvalidFact, C_InvalidProtected, C_InvalidCount, C_InvalidText, C_InvalidCommand, C_UnknownPlace, C_UnknownModule, C_UnknownCall, C_UnknownFunction, C_UnknownWorker, C_Unsteady, C_NotReady, C_NoMeaning, C_Protected, C_Missing, C_Circular, C_NameTaken, C_CallTaken, C_Busy, C_Idle, C_Turned, C_NothingToUndo, C_CommandFailed, C_TooMany] : List Addr).getD i 0, []⟩ : EV.Ctx) P w mg base 1 "Unsteady" 18 ["certificate"] ["certificate"] [0] := by
      obtain ⟨its, b⟩ := b_ew_Unsteady
      exact ⟨.run, f_Unsteady, _, _, _, _, PySem.W.mg_of X G ac_Unsteady, errB_ok eb_Unsteady, ai_Unsteady, ti_Unsteady, fldB_ok nf_Unsteady, G_Unsteady, b, fun x zs h => match zs, h with | [_], _ => rfl⟩
  have G_NotReady := ok_NotReady (P := P) (w := w) (base := base) (C := ⟨K, fun i => ([] : List Addr).getD i 0, fun i => ([C_MeantError, C_InvalidName, C_InvalidPath, C_InvalidArguments, C_InvalidProgram, C_InvalidOrder, C_InvalidChoices, C_InvalidPlace, C_InvalidFact, C_InvalidProtected, C_InvalidCount, C_InvalidText, C_InvalidCommand, C_UnknownPlace, C_UnknownModule, C_UnknownCall, C_UnknownFunction, C_UnknownWorker, C_Unsteady, C_NotReady, C_NoMeaning, C_Protected, C_Missing, C_Circular, C_NameTaken, C_CallTaken, C_Busy, C_Idle, C_Turned, C_NothingToUndo, C_CommandFailed, C_TooMany] : List Addr).getD i 0, []⟩) TT FD_NotReady
  have er_NotReady : ErrOk (⟨K, fun i => ([] : List Addr).getD i 0, fun i => ([C_MeantError, C_InvalidName, C_InvalidPath, C_InvalidArguments, C_InvalidProgram, C_InvalidOrder, C_InvalidChoices, C_InvalidPlace, C_InvalidFact, C_InvalidProtected, C_InvalidCount, C_InvalidText, C_InvalidCommand, C_UnknownPlace, C_UnknownModule, C_UnknownCall, C_UnknownFunction, C_UnknownWorker, C_Unsteady, C_NotReady, C_NoMeaning, C_Protected, C_Missing, C_Circular, C_NameTaken, C_CallTaken, C_Busy, C_Idle, C_Turned, C_NothingToUndo, C_CommandFailed, C_TooMany] : List Addr).getD i 0, []⟩ : EV.Ctx) P w mg base 1 "NotReady" 19 ["value"] := ⟨.run, f_NotReady, _, _, PySem.W.mg_of X G ac_NotReady, errB_ok eb_NotReady, ai_NotReady, ti_NotReady, fldB_ok nf_NotReady, G_NotReady, b_er_NotReady, rfl⟩
  have ew_NotReady : ErrKw (⟨K, fun i => ([] : List Addr).getD i 0, fun i => ([C_MeantError, C_InvalidName, C_InvalidPath, C_InvalidArguments, C_InvalidProgram, C_InvalidOrder, C_InvalidChoices, C_InvalidPlace, C_InvalidFact, C_InvalidProtected, C_InvalidCount, C_InvalidText, C_InvalidCommand, C_UnknownPlace, C_UnknownModule, C_UnknownCall, C_UnknownFunction, C_UnknownWorker, C_Unsteady, C_NotReady, C_NoMeaning, C_Protected, C_Missing, C_Circular, C_NameTaken, C_CallTaken, C_Busy, C_Idle, C_Turned, C_NothingToUndo, C_CommandFailed, C_TooMany] : List Addr).getD i 0, []⟩ : EV.Ctx) P w mg base 1 "NotReady" 19 ["value"] ["value"] [0] := by
      obtain ⟨its, b⟩ := b_ew_NotReady
      exact ⟨.run, f_NotReady, _, _, _, _, PySem.W.mg_of X G ac_NotReady, errB_ok eb_NotReady, ai_NotReady, ti_NotReady, fldB_ok nf_NotReady, G_NotReady, b, fun x zs h => match zs, h with | [_], _ => rfl⟩
  have G_NoMeaning := ok_NoMeaning (P := P) (w := w) (base := base) (C := ⟨K, fun i => ([] : List Addr).getD i 0, fun i => ([C_MeantError, C_InvalidName, C_InvalidPath, C_InvalidArguments, C_InvalidProgram, C_InvalidOrder, C_InvalidChoices, C_InvalidPlace, C_InvalidFact, C_InvalidProtected, C_InvalidCount, C_InvalidText, C_InvalidCommand, C_UnknownPlace, C_UnknownModule, C_UnknownCall, C_UnknownFunction, C_UnknownWorker, C_Unsteady, C_NotReady, C_NoMeaning, C_Protected, C_Missing, C_Circular, C_NameTaken, C_CallTaken, C_Busy, C_Idle, C_Turned, C_NothingToUndo, C_CommandFailed, C_TooMany] : List Addr).getD i 0, []⟩) TT FD_NoMeaning
  have er_NoMeaning : ErrOk (⟨K, fun i => ([] : List Addr).getD i 0, fun i => ([C_MeantError, C_InvalidName, C_InvalidPath, C_InvalidArguments, C_InvalidProgram, C_InvalidOrder, C_InvalidChoices, C_InvalidPlace, C_InvalidFact, C_InvalidProtected, C_InvalidCount, C_InvalidText, C_InvalidCommand, C_UnknownPlace, C_UnknownModule, C_UnknownCall, C_UnknownFunction, C_UnknownWorker, C_Unsteady, C_NotReady, C_NoMeaning, C_Protected, C_Missing, C_Circular, C_NameTaken, C_CallTaken, C_Busy, C_Idle, C_Turned, C_NothingToUndo, C_CommandFailed, C_TooMany] : List Addr).getD i 0, []⟩ : EV.Ctx) P w mg base 1 "NoMeaning" 20 ["module", "name"] := ⟨.run, f_NoMeaning, _, _, PySem.W.mg_of X G ac_NoMeaning, errB_ok eb_NoMeaning, ai_NoMeaning, ti_NoMeaning, fldB_ok nf_NoMeaning, G_NoMeaning, b_er_NoMeaning, rfl⟩
  have ew_NoMeaning : ErrKw (⟨K, fun i => ([] : List Addr).getD i 0, fun i => ([C_MeantError, C_InvalidName, C_InvalidPath, C_InvalidArguments, C_InvalidProgram, C_InvalidOrder, C_InvalidChoices, C_InvalidPlace, C_InvalidFact, C_InvalidProtected, C_InvalidCount, C_InvalidText, C_InvalidCommand, C_UnknownPlace, C_UnknownModule, C_UnknownCall, C_UnknownFunction, C_UnknownWorker, C_Unsteady, C_NotReady, C_NoMeaning, C_Protected, C_Missing, C_Circular, C_NameTaken, C_CallTaken, C_Busy, C_Idle, C_Turned, C_NothingToUndo, C_CommandFailed, C_TooMany] : List Addr).getD i 0, []⟩ : EV.Ctx) P w mg base 1 "NoMeaning" 20 ["module", "name"] ["name", "module"] [1, 0] := by
      obtain ⟨its, b⟩ := b_ew_NoMeaning
      exact ⟨.run, f_NoMeaning, _, _, _, _, PySem.W.mg_of X G ac_NoMeaning, errB_ok eb_NoMeaning, ai_NoMeaning, ti_NoMeaning, fldB_ok nf_NoMeaning, G_NoMeaning, b, fun x zs h => match zs, h with | [_, _], _ => rfl⟩
  have G_Protected := ok_Protected (P := P) (w := w) (base := base) (C := ⟨K, fun i => ([] : List Addr).getD i 0, fun i => ([C_MeantError, C_InvalidName, C_InvalidPath, C_InvalidArguments, C_InvalidProgram, C_InvalidOrder, C_InvalidChoices, C_InvalidPlace, C_InvalidFact, C_InvalidProtected, C_InvalidCount, C_InvalidText, C_InvalidCommand, C_UnknownPlace, C_UnknownModule, C_UnknownCall, C_UnknownFunction, C_UnknownWorker, C_Unsteady, C_NotReady, C_NoMeaning, C_Protected, C_Missing, C_Circular, C_NameTaken, C_CallTaken, C_Busy, C_Idle, C_Turned, C_NothingToUndo, C_CommandFailed, C_TooMany] : List Addr).getD i 0, []⟩) TT FD_Protected
  have er_Protected : ErrOk (⟨K, fun i => ([] : List Addr).getD i 0, fun i => ([C_MeantError, C_InvalidName, C_InvalidPath, C_InvalidArguments, C_InvalidProgram, C_InvalidOrder, C_InvalidChoices, C_InvalidPlace, C_InvalidFact, C_InvalidProtected, C_InvalidCount, C_InvalidText, C_InvalidCommand, C_UnknownPlace, C_UnknownModule, C_UnknownCall, C_UnknownFunction, C_UnknownWorker, C_Unsteady, C_NotReady, C_NoMeaning, C_Protected, C_Missing, C_Circular, C_NameTaken, C_CallTaken, C_Busy, C_Idle, C_Turned, C_NothingToUndo, C_CommandFailed, C_TooMany] : List Addr).getD i 0, []⟩ : EV.Ctx) P w mg base 1 "Protected" 21 ["module", "name"] := ⟨.run, f_Protected, _, _, PySem.W.mg_of X G ac_Protected, errB_ok eb_Protected, ai_Protected, ti_Protected, fldB_ok nf_Protected, G_Protected, b_er_Protected, rfl⟩
  have ew_Protected : ErrKw (⟨K, fun i => ([] : List Addr).getD i 0, fun i => ([C_MeantError, C_InvalidName, C_InvalidPath, C_InvalidArguments, C_InvalidProgram, C_InvalidOrder, C_InvalidChoices, C_InvalidPlace, C_InvalidFact, C_InvalidProtected, C_InvalidCount, C_InvalidText, C_InvalidCommand, C_UnknownPlace, C_UnknownModule, C_UnknownCall, C_UnknownFunction, C_UnknownWorker, C_Unsteady, C_NotReady, C_NoMeaning, C_Protected, C_Missing, C_Circular, C_NameTaken, C_CallTaken, C_Busy, C_Idle, C_Turned, C_NothingToUndo, C_CommandFailed, C_TooMany] : List Addr).getD i 0, []⟩ : EV.Ctx) P w mg base 1 "Protected" 21 ["module", "name"] ["name", "module"] [1, 0] := by
      obtain ⟨its, b⟩ := b_ew_Protected
      exact ⟨.run, f_Protected, _, _, _, _, PySem.W.mg_of X G ac_Protected, errB_ok eb_Protected, ai_Protected, ti_Protected, fldB_ok nf_Protected, G_Protected, b, fun x zs h => match zs, h with | [_, _], _ => rfl⟩
  have G_Missing := ok_Missing (P := P) (w := w) (base := base) (C := ⟨K, fun i => ([] : List Addr).getD i 0, fun i => ([C_MeantError, C_InvalidName, C_InvalidPath, C_InvalidArguments, C_InvalidProgram, C_InvalidOrder, C_InvalidChoices, C_InvalidPlace, C_InvalidFact, C_InvalidProtected, C_InvalidCount, C_InvalidText, C_InvalidCommand, C_UnknownPlace, C_UnknownModule, C_UnknownCall, C_UnknownFunction, C_UnknownWorker, C_Unsteady, C_NotReady, C_NoMeaning, C_Protected, C_Missing, C_Circular, C_NameTaken, C_CallTaken, C_Busy, C_Idle, C_Turned, C_NothingToUndo, C_CommandFailed, C_TooMany] : List Addr).getD i 0, []⟩) TT FD_Missing
  have er_Missing : ErrOk (⟨K, fun i => ([] : List Addr).getD i 0, fun i => ([C_MeantError, C_InvalidName, C_InvalidPath, C_InvalidArguments, C_InvalidProgram, C_InvalidOrder, C_InvalidChoices, C_InvalidPlace, C_InvalidFact, C_InvalidProtected, C_InvalidCount, C_InvalidText, C_InvalidCommand, C_UnknownPlace, C_UnknownModule, C_UnknownCall, C_UnknownFunction, C_UnknownWorker, C_Unsteady, C_NotReady, C_NoMeaning, C_Protected, C_Missing, C_Circular, C_NameTaken, C_CallTaken, C_Busy, C_Idle, C_Turned, C_NothingToUndo, C_CommandFailed, C_TooMany] : List Addr).getD i 0, []⟩ : EV.Ctx) P w mg base 1 "Missing" 22 ["place", "path"] := ⟨.run, f_Missing, _, _, PySem.W.mg_of X G ac_Missing, errB_ok eb_Missing, ai_Missing, ti_Missing, fldB_ok nf_Missing, G_Missing, b_er_Missing, rfl⟩
  have ew_Missing : ErrKw (⟨K, fun i => ([] : List Addr).getD i 0, fun i => ([C_MeantError, C_InvalidName, C_InvalidPath, C_InvalidArguments, C_InvalidProgram, C_InvalidOrder, C_InvalidChoices, C_InvalidPlace, C_InvalidFact, C_InvalidProtected, C_InvalidCount, C_InvalidText, C_InvalidCommand, C_UnknownPlace, C_UnknownModule, C_UnknownCall, C_UnknownFunction, C_UnknownWorker, C_Unsteady, C_NotReady, C_NoMeaning, C_Protected, C_Missing, C_Circular, C_NameTaken, C_CallTaken, C_Busy, C_Idle, C_Turned, C_NothingToUndo, C_CommandFailed, C_TooMany] : List Addr).getD i 0, []⟩ : EV.Ctx) P w mg base 1 "Missing" 22 ["place", "path"] ["path", "place"] [1, 0] := by
      obtain ⟨its, b⟩ := b_ew_Missing
      exact ⟨.run, f_Missing, _, _, _, _, PySem.W.mg_of X G ac_Missing, errB_ok eb_Missing, ai_Missing, ti_Missing, fldB_ok nf_Missing, G_Missing, b, fun x zs h => match zs, h with | [_, _], _ => rfl⟩
  have G_Circular := ok_Circular (P := P) (w := w) (base := base) (C := ⟨K, fun i => ([] : List Addr).getD i 0, fun i => ([C_MeantError, C_InvalidName, C_InvalidPath, C_InvalidArguments, C_InvalidProgram, C_InvalidOrder, C_InvalidChoices, C_InvalidPlace, C_InvalidFact, C_InvalidProtected, C_InvalidCount, C_InvalidText, C_InvalidCommand, C_UnknownPlace, C_UnknownModule, C_UnknownCall, C_UnknownFunction, C_UnknownWorker, C_Unsteady, C_NotReady, C_NoMeaning, C_Protected, C_Missing, C_Circular, C_NameTaken, C_CallTaken, C_Busy, C_Idle, C_Turned, C_NothingToUndo, C_CommandFailed, C_TooMany] : List Addr).getD i 0, []⟩) TT FD_Circular
  have er_Circular : ErrOk (⟨K, fun i => ([] : List Addr).getD i 0, fun i => ([C_MeantError, C_InvalidName, C_InvalidPath, C_InvalidArguments, C_InvalidProgram, C_InvalidOrder, C_InvalidChoices, C_InvalidPlace, C_InvalidFact, C_InvalidProtected, C_InvalidCount, C_InvalidText, C_InvalidCommand, C_UnknownPlace, C_UnknownModule, C_UnknownCall, C_UnknownFunction, C_UnknownWorker, C_Unsteady, C_NotReady, C_NoMeaning, C_Protected, C_Missing, C_Circular, C_NameTaken, C_CallTaken, C_Busy, C_Idle, C_Turned, C_NothingToUndo, C_CommandFailed, C_TooMany] : List Addr).getD i 0, []⟩ : EV.Ctx) P w mg base 1 "Circular" 23 ["place"] := ⟨.run, f_Circular, _, _, PySem.W.mg_of X G ac_Circular, errB_ok eb_Circular, ai_Circular, ti_Circular, fldB_ok nf_Circular, G_Circular, b_er_Circular, rfl⟩
  have ew_Circular : ErrKw (⟨K, fun i => ([] : List Addr).getD i 0, fun i => ([C_MeantError, C_InvalidName, C_InvalidPath, C_InvalidArguments, C_InvalidProgram, C_InvalidOrder, C_InvalidChoices, C_InvalidPlace, C_InvalidFact, C_InvalidProtected, C_InvalidCount, C_InvalidText, C_InvalidCommand, C_UnknownPlace, C_UnknownModule, C_UnknownCall, C_UnknownFunction, C_UnknownWorker, C_Unsteady, C_NotReady, C_NoMeaning, C_Protected, C_Missing, C_Circular, C_NameTaken, C_CallTaken, C_Busy, C_Idle, C_Turned, C_NothingToUndo, C_CommandFailed, C_TooMany] : List Addr).getD i 0, []⟩ : EV.Ctx) P w mg base 1 "Circular" 23 ["place"] ["place"] [0] := by
      obtain ⟨its, b⟩ := b_ew_Circular
      exact ⟨.run, f_Circular, _, _, _, _, PySem.W.mg_of X G ac_Circular, errB_ok eb_Circular, ai_Circular, ti_Circular, fldB_ok nf_Circular, G_Circular, b, fun x zs h => match zs, h with | [_], _ => rfl⟩
  have G_NameTaken := ok_NameTaken (P := P) (w := w) (base := base) (C := ⟨K, fun i => ([] : List Addr).getD i 0, fun i => ([C_MeantError, C_InvalidName, C_InvalidPath, C_InvalidArguments, C_InvalidProgram, C_InvalidOrder, C_InvalidChoices, C_InvalidPlace, C_InvalidFact, C_InvalidProtected, C_InvalidCount, C_InvalidText, C_InvalidCommand, C_UnknownPlace, C_UnknownModule, C_UnknownCall, C_UnknownFunction, C_UnknownWorker, C_Unsteady, C_NotReady, C_NoMeaning, C_Protected, C_Missing, C_Circular, C_NameTaken, C_CallTaken, C_Busy, C_Idle, C_Turned, C_NothingToUndo, C_CommandFailed, C_TooMany] : List Addr).getD i 0, []⟩) TT FD_NameTaken
  have er_NameTaken : ErrOk (⟨K, fun i => ([] : List Addr).getD i 0, fun i => ([C_MeantError, C_InvalidName, C_InvalidPath, C_InvalidArguments, C_InvalidProgram, C_InvalidOrder, C_InvalidChoices, C_InvalidPlace, C_InvalidFact, C_InvalidProtected, C_InvalidCount, C_InvalidText, C_InvalidCommand, C_UnknownPlace, C_UnknownModule, C_UnknownCall, C_UnknownFunction, C_UnknownWorker, C_Unsteady, C_NotReady, C_NoMeaning, C_Protected, C_Missing, C_Circular, C_NameTaken, C_CallTaken, C_Busy, C_Idle, C_Turned, C_NothingToUndo, C_CommandFailed, C_TooMany] : List Addr).getD i 0, []⟩ : EV.Ctx) P w mg base 1 "NameTaken" 24 ["name"] := ⟨.run, f_NameTaken, _, _, PySem.W.mg_of X G ac_NameTaken, errB_ok eb_NameTaken, ai_NameTaken, ti_NameTaken, fldB_ok nf_NameTaken, G_NameTaken, b_er_NameTaken, rfl⟩
  have ew_NameTaken : ErrKw (⟨K, fun i => ([] : List Addr).getD i 0, fun i => ([C_MeantError, C_InvalidName, C_InvalidPath, C_InvalidArguments, C_InvalidProgram, C_InvalidOrder, C_InvalidChoices, C_InvalidPlace, C_InvalidFact, C_InvalidProtected, C_InvalidCount, C_InvalidText, C_InvalidCommand, C_UnknownPlace, C_UnknownModule, C_UnknownCall, C_UnknownFunction, C_UnknownWorker, C_Unsteady, C_NotReady, C_NoMeaning, C_Protected, C_Missing, C_Circular, C_NameTaken, C_CallTaken, C_Busy, C_Idle, C_Turned, C_NothingToUndo, C_CommandFailed, C_TooMany] : List Addr).getD i 0, []⟩ : EV.Ctx) P w mg base 1 "NameTaken" 24 ["name"] ["name"] [0] := by
      obtain ⟨its, b⟩ := b_ew_NameTaken
      exact ⟨.run, f_NameTaken, _, _, _, _, PySem.W.mg_of X G ac_NameTaken, errB_ok eb_NameTaken, ai_NameTaken, ti_NameTaken, fldB_ok nf_NameTaken, G_NameTaken, b, fun x zs h => match zs, h with | [_], _ => rfl⟩
  have G_CallTaken := ok_CallTaken (P := P) (w := w) (base := base) (C := ⟨K, fun i => ([] : List Addr).getD i 0, fun i => ([C_MeantError, C_InvalidName, C_InvalidPath, C_InvalidArguments, C_InvalidProgram, C_InvalidOrder, C_InvalidChoices, C_InvalidPlace, C_InvalidFact, C_InvalidProtected, C_InvalidCount, C_InvalidText, C_InvalidCommand, C_UnknownPlace, C_UnknownModule, C_UnknownCall, C_UnknownFunction, C_UnknownWorker, C_Unsteady, C_NotReady, C_NoMeaning, C_Protected, C_Missing, C_Circular, C_NameTaken, C_CallTaken, C_Busy, C_Idle, C_Turned, C_NothingToUndo, C_CommandFailed, C_TooMany] : List Addr).getD i 0, []⟩) TT FD_CallTaken
  have er_CallTaken : ErrOk (⟨K, fun i => ([] : List Addr).getD i 0, fun i => ([C_MeantError, C_InvalidName, C_InvalidPath, C_InvalidArguments, C_InvalidProgram, C_InvalidOrder, C_InvalidChoices, C_InvalidPlace, C_InvalidFact, C_InvalidProtected, C_InvalidCount, C_InvalidText, C_InvalidCommand, C_UnknownPlace, C_UnknownModule, C_UnknownCall, C_UnknownFunction, C_UnknownWorker, C_Unsteady, C_NotReady, C_NoMeaning, C_Protected, C_Missing, C_Circular, C_NameTaken, C_CallTaken, C_Busy, C_Idle, C_Turned, C_NothingToUndo, C_CommandFailed, C_TooMany] : List Addr).getD i 0, []⟩ : EV.Ctx) P w mg base 1 "CallTaken" 25 ["place"] := ⟨.run, f_CallTaken, _, _, PySem.W.mg_of X G ac_CallTaken, errB_ok eb_CallTaken, ai_CallTaken, ti_CallTaken, fldB_ok nf_CallTaken, G_CallTaken, b_er_CallTaken, rfl⟩
  have ew_CallTaken : ErrKw (⟨K, fun i => ([] : List Addr).getD i 0, fun i => ([C_MeantError, C_InvalidName, C_InvalidPath, C_InvalidArguments, C_InvalidProgram, C_InvalidOrder, C_InvalidChoices, C_InvalidPlace, C_InvalidFact, C_InvalidProtected, C_InvalidCount, C_InvalidText, C_InvalidCommand, C_UnknownPlace, C_UnknownModule, C_UnknownCall, C_UnknownFunction, C_UnknownWorker, C_Unsteady, C_NotReady, C_NoMeaning, C_Protected, C_Missing, C_Circular, C_NameTaken, C_CallTaken, C_Busy, C_Idle, C_Turned, C_NothingToUndo, C_CommandFailed, C_TooMany] : List Addr).getD i 0, []⟩ : EV.Ctx) P w mg base 1 "CallTaken" 25 ["place"] ["place"] [0] := by
      obtain ⟨its, b⟩ := b_ew_CallTaken
      exact ⟨.run, f_CallTaken, _, _, _, _, PySem.W.mg_of X G ac_CallTaken, errB_ok eb_CallTaken, ai_CallTaken, ti_CallTaken, fldB_ok nf_CallTaken, G_CallTaken, b, fun x zs h => match zs, h with | [_], _ => rfl⟩
  have G_Busy := ok_Busy (P := P) (w := w) (base := base) (C := ⟨K, fun i => ([] : List Addr).getD i 0, fun i => ([C_MeantError, C_InvalidName, C_InvalidPath, C_InvalidArguments, C_InvalidProgram, C_InvalidOrder, C_InvalidChoices, C_InvalidPlace, C_InvalidFact, C_InvalidProtected, C_InvalidCount, C_InvalidText, C_InvalidCommand, C_UnknownPlace, C_UnknownModule, C_UnknownCall, C_UnknownFunction, C_UnknownWorker, C_Unsteady, C_NotReady, C_NoMeaning, C_Protected, C_Missing, C_Circular, C_NameTaken, C_CallTaken, C_Busy, C_Idle, C_Turned, C_NothingToUndo, C_CommandFailed, C_TooMany] : List Addr).getD i 0, []⟩) TT FD_Busy
  have er_Busy : ErrOk (⟨K, fun i => ([] : List Addr).getD i 0, fun i => ([C_MeantError, C_InvalidName, C_InvalidPath, C_InvalidArguments, C_InvalidProgram, C_InvalidOrder, C_InvalidChoices, C_InvalidPlace, C_InvalidFact, C_InvalidProtected, C_InvalidCount, C_InvalidText, C_InvalidCommand, C_UnknownPlace, C_UnknownModule, C_UnknownCall, C_UnknownFunction, C_UnknownWorker, C_Unsteady, C_NotReady, C_NoMeaning, C_Protected, C_Missing, C_Circular, C_NameTaken, C_CallTaken, C_Busy, C_Idle, C_Turned, C_NothingToUndo, C_CommandFailed, C_TooMany] : List Addr).getD i 0, []⟩ : EV.Ctx) P w mg base 1 "Busy" 26 ["worker"] := ⟨.run, f_Busy, _, _, PySem.W.mg_of X G ac_Busy, errB_ok eb_Busy, ai_Busy, ti_Busy, fldB_ok nf_Busy, G_Busy, b_er_Busy, rfl⟩
  have ew_Busy : ErrKw (⟨K, fun i => ([] : List Addr).getD i 0, fun i => ([C_MeantError, C_InvalidName, C_InvalidPath, C_InvalidArguments, C_InvalidProgram, C_InvalidOrder, C_InvalidChoices, C_InvalidPlace, C_InvalidFact, C_InvalidProtected, C_InvalidCount, C_InvalidText, C_InvalidCommand, C_UnknownPlace, C_UnknownModule, C_UnknownCall, C_UnknownFunction, C_UnknownWorker, C_Unsteady, C_NotReady, C_NoMeaning, C_Protected, C_Missing, C_Circular, C_NameTaken, C_CallTaken, C_Busy, C_Idle, C_Turned, C_NothingToUndo, C_CommandFailed, C_TooMany] : List Addr).getD i 0, []⟩ : EV.Ctx) P w mg base 1 "Busy" 26 ["worker"] ["worker"] [0] := by
      obtain ⟨its, b⟩ := b_ew_Busy
      exact ⟨.run, f_Busy, _, _, _, _, PySem.W.mg_of X G ac_Busy, errB_ok eb_Busy, ai_Busy, ti_Busy, fldB_ok nf_Busy, G_Busy, b, fun x zs h => match zs, h with | [_], _ => rfl⟩
  have G_Idle := ok_Idle (P := P) (w := w) (base := base) (C := ⟨K, fun i => ([] : List Addr).getD i 0, fun i => ([C_MeantError, C_InvalidName, C_InvalidPath, C_InvalidArguments, C_InvalidProgram, C_InvalidOrder, C_InvalidChoices, C_InvalidPlace, C_InvalidFact, C_InvalidProtected, C_InvalidCount, C_InvalidText, C_InvalidCommand, C_UnknownPlace, C_UnknownModule, C_UnknownCall, C_UnknownFunction, C_UnknownWorker, C_Unsteady, C_NotReady, C_NoMeaning, C_Protected, C_Missing, C_Circular, C_NameTaken, C_CallTaken, C_Busy, C_Idle, C_Turned, C_NothingToUndo, C_CommandFailed, C_TooMany] : List Addr).getD i 0, []⟩) TT FD_Idle
  have er_Idle : ErrOk (⟨K, fun i => ([] : List Addr).getD i 0, fun i => ([C_MeantError, C_InvalidName, C_InvalidPath, C_InvalidArguments, C_InvalidProgram, C_InvalidOrder, C_InvalidChoices, C_InvalidPlace, C_InvalidFact, C_InvalidProtected, C_InvalidCount, C_InvalidText, C_InvalidCommand, C_UnknownPlace, C_UnknownModule, C_UnknownCall, C_UnknownFunction, C_UnknownWorker, C_Unsteady, C_NotReady, C_NoMeaning, C_Protected, C_Missing, C_Circular, C_NameTaken, C_CallTaken, C_Busy, C_Idle, C_Turned, C_NothingToUndo, C_CommandFailed, C_TooMany] : List Addr).getD i 0, []⟩ : EV.Ctx) P w mg base 1 "Idle" 27 ["worker"] := ⟨.run, f_Idle, _, _, PySem.W.mg_of X G ac_Idle, errB_ok eb_Idle, ai_Idle, ti_Idle, fldB_ok nf_Idle, G_Idle, b_er_Idle, rfl⟩
  have ew_Idle : ErrKw (⟨K, fun i => ([] : List Addr).getD i 0, fun i => ([C_MeantError, C_InvalidName, C_InvalidPath, C_InvalidArguments, C_InvalidProgram, C_InvalidOrder, C_InvalidChoices, C_InvalidPlace, C_InvalidFact, C_InvalidProtected, C_InvalidCount, C_InvalidText, C_InvalidCommand, C_UnknownPlace, C_UnknownModule, C_UnknownCall, C_UnknownFunction, C_UnknownWorker, C_Unsteady, C_NotReady, C_NoMeaning, C_Protected, C_Missing, C_Circular, C_NameTaken, C_CallTaken, C_Busy, C_Idle, C_Turned, C_NothingToUndo, C_CommandFailed, C_TooMany] : List Addr).getD i 0, []⟩ : EV.Ctx) P w mg base 1 "Idle" 27 ["worker"] ["worker"] [0] := by
      obtain ⟨its, b⟩ := b_ew_Idle
      exact ⟨.run, f_Idle, _, _, _, _, PySem.W.mg_of X G ac_Idle, errB_ok eb_Idle, ai_Idle, ti_Idle, fldB_ok nf_Idle, G_Idle, b, fun x zs h => match zs, h with | [_], _ => rfl⟩
  have G_Turned := ok_Turned (P := P) (w := w) (base := base) (C := ⟨K, fun i => ([] : List Addr).getD i 0, fun i => ([C_MeantError, C_InvalidName, C_InvalidPath, C_InvalidArguments, C_InvalidProgram, C_InvalidOrder, C_InvalidChoices, C_InvalidPlace, C_InvalidFact, C_InvalidProtected, C_InvalidCount, C_InvalidText, C_InvalidCommand, C_UnknownPlace, C_UnknownModule, C_UnknownCall, C_UnknownFunction, C_UnknownWorker, C_Unsteady, C_NotReady, C_NoMeaning, C_Protected, C_Missing, C_Circular, C_NameTaken, C_CallTaken, C_Busy, C_Idle, C_Turned, C_NothingToUndo, C_CommandFailed, C_TooMany] : List Addr).getD i 0, []⟩) TT FD_Turned
  have er_Turned : ErrOk (⟨K, fun i => ([] : List Addr).getD i 0, fun i => ([C_MeantError, C_InvalidName, C_InvalidPath, C_InvalidArguments, C_InvalidProgram, C_InvalidOrder, C_InvalidChoices, C_InvalidPlace, C_InvalidFact, C_InvalidProtected, C_InvalidCount, C_InvalidText, C_InvalidCommand, C_UnknownPlace, C_UnknownModule, C_UnknownCall, C_UnknownFunction, C_UnknownWorker, C_Unsteady, C_NotReady, C_NoMeaning, C_Protected, C_Missing, C_Circular, C_NameTaken, C_CallTaken, C_Busy, C_Idle, C_Turned, C_NothingToUndo, C_CommandFailed, C_TooMany] : List Addr).getD i 0, []⟩ : EV.Ctx) P w mg base 1 "Turned" 28 ["worker"] := ⟨.run, f_Turned, _, _, PySem.W.mg_of X G ac_Turned, errB_ok eb_Turned, ai_Turned, ti_Turned, fldB_ok nf_Turned, G_Turned, b_er_Turned, rfl⟩
  have ew_Turned : ErrKw (⟨K, fun i => ([] : List Addr).getD i 0, fun i => ([C_MeantError, C_InvalidName, C_InvalidPath, C_InvalidArguments, C_InvalidProgram, C_InvalidOrder, C_InvalidChoices, C_InvalidPlace, C_InvalidFact, C_InvalidProtected, C_InvalidCount, C_InvalidText, C_InvalidCommand, C_UnknownPlace, C_UnknownModule, C_UnknownCall, C_UnknownFunction, C_UnknownWorker, C_Unsteady, C_NotReady, C_NoMeaning, C_Protected, C_Missing, C_Circular, C_NameTaken, C_CallTaken, C_Busy, C_Idle, C_Turned, C_NothingToUndo, C_CommandFailed, C_TooMany] : List Addr).getD i 0, []⟩ : EV.Ctx) P w mg base 1 "Turned" 28 ["worker"] ["worker"] [0] := by
      obtain ⟨its, b⟩ := b_ew_Turned
      exact ⟨.run, f_Turned, _, _, _, _, PySem.W.mg_of X G ac_Turned, errB_ok eb_Turned, ai_Turned, ti_Turned, fldB_ok nf_Turned, G_Turned, b, fun x zs h => match zs, h with | [_], _ => rfl⟩
  have G_NothingToUndo := ok_NothingToUndo (P := P) (w := w) (base := base) (C := ⟨K, fun i => ([] : List Addr).getD i 0, fun i => ([C_MeantError, C_InvalidName, C_InvalidPath, C_InvalidArguments, C_InvalidProgram, C_InvalidOrder, C_InvalidChoices, C_InvalidPlace, C_InvalidFact, C_InvalidProtected, C_InvalidCount, C_InvalidText, C_InvalidCommand, C_UnknownPlace, C_UnknownModule, C_UnknownCall, C_UnknownFunction, C_UnknownWorker, C_Unsteady, C_NotReady, C_NoMeaning, C_Protected, C_Missing, C_Circular, C_NameTaken, C_CallTaken, C_Busy, C_Idle, C_Turned, C_NothingToUndo, C_CommandFailed, C_TooMany] : List Addr).getD i 0, []⟩) TT FD_NothingToUndo
  have er_NothingToUndo : ErrOk (⟨K, fun i => ([] : List Addr).getD i 0, fun i => ([C_MeantError, C_InvalidName, C_InvalidPath, C_InvalidArguments, C_InvalidProgram, C_InvalidOrder, C_InvalidChoices, C_InvalidPlace, C_InvalidFact, C_InvalidProtected, C_InvalidCount, C_InvalidText, C_InvalidCommand, C_UnknownPlace, C_UnknownModule, C_UnknownCall, C_UnknownFunction, C_UnknownWorker, C_Unsteady, C_NotReady, C_NoMeaning, C_Protected, C_Missing, C_Circular, C_NameTaken, C_CallTaken, C_Busy, C_Idle, C_Turned, C_NothingToUndo, C_CommandFailed, C_TooMany] : List Addr).getD i 0, []⟩ : EV.Ctx) P w mg base 1 "NothingToUndo" 29 ["count"] := ⟨.run, f_NothingToUndo, _, _, PySem.W.mg_of X G ac_NothingToUndo, errB_ok eb_NothingToUndo, ai_NothingToUndo, ti_NothingToUndo, fldB_ok nf_NothingToUndo, G_NothingToUndo, b_er_NothingToUndo, rfl⟩
  have ew_NothingToUndo : ErrKw (⟨K, fun i => ([] : List Addr).getD i 0, fun i => ([C_MeantError, C_InvalidName, C_InvalidPath, C_InvalidArguments, C_InvalidProgram, C_InvalidOrder, C_InvalidChoices, C_InvalidPlace, C_InvalidFact, C_InvalidProtected, C_InvalidCount, C_InvalidText, C_InvalidCommand, C_UnknownPlace, C_UnknownModule, C_UnknownCall, C_UnknownFunction, C_UnknownWorker, C_Unsteady, C_NotReady, C_NoMeaning, C_Protected, C_Missing, C_Circular, C_NameTaken, C_CallTaken, C_Busy, C_Idle, C_Turned, C_NothingToUndo, C_CommandFailed, C_TooMany] : List Addr).getD i 0, []⟩ : EV.Ctx) P w mg base 1 "NothingToUndo" 29 ["count"] ["count"] [0] := by
      obtain ⟨its, b⟩ := b_ew_NothingToUndo
      exact ⟨.run, f_NothingToUndo, _, _, _, _, PySem.W.mg_of X G ac_NothingToUndo, errB_ok eb_NothingToUndo, ai_NothingToUndo, ti_NothingToUndo, fldB_ok nf_NothingToUndo, G_NothingToUndo, b, fun x zs h => match zs, h with | [_], _ => rfl⟩
  have G_CommandFailed := ok_CommandFailed (P := P) (w := w) (base := base) (C := ⟨K, fun i => ([] : List Addr).getD i 0, fun i => ([C_MeantError, C_InvalidName, C_InvalidPath, C_InvalidArguments, C_InvalidProgram, C_InvalidOrder, C_InvalidChoices, C_InvalidPlace, C_InvalidFact, C_InvalidProtected, C_InvalidCount, C_InvalidText, C_InvalidCommand, C_UnknownPlace, C_UnknownModule, C_UnknownCall, C_UnknownFunction, C_UnknownWorker, C_Unsteady, C_NotReady, C_NoMeaning, C_Protected, C_Missing, C_Circular, C_NameTaken, C_CallTaken, C_Busy, C_Idle, C_Turned, C_NothingToUndo, C_CommandFailed, C_TooMany] : List Addr).getD i 0, []⟩) TT FD_CommandFailed
  have er_CommandFailed : ErrOk (⟨K, fun i => ([] : List Addr).getD i 0, fun i => ([C_MeantError, C_InvalidName, C_InvalidPath, C_InvalidArguments, C_InvalidProgram, C_InvalidOrder, C_InvalidChoices, C_InvalidPlace, C_InvalidFact, C_InvalidProtected, C_InvalidCount, C_InvalidText, C_InvalidCommand, C_UnknownPlace, C_UnknownModule, C_UnknownCall, C_UnknownFunction, C_UnknownWorker, C_Unsteady, C_NotReady, C_NoMeaning, C_Protected, C_Missing, C_Circular, C_NameTaken, C_CallTaken, C_Busy, C_Idle, C_Turned, C_NothingToUndo, C_CommandFailed, C_TooMany] : List Addr).getD i 0, []⟩ : EV.Ctx) P w mg base 1 "CommandFailed" 30 ["position", "results"] := ⟨.run, f_CommandFailed, _, _, PySem.W.mg_of X G ac_CommandFailed, errB_ok eb_CommandFailed, ai_CommandFailed, ti_CommandFailed, fldB_ok nf_CommandFailed, G_CommandFailed, b_er_CommandFailed, rfl⟩
  have ew_CommandFailed : ErrKw (⟨K, fun i => ([] : List Addr).getD i 0, fun i => ([C_MeantError, C_InvalidName, C_InvalidPath, C_InvalidArguments, C_InvalidProgram, C_InvalidOrder, C_InvalidChoices, C_InvalidPlace, C_InvalidFact, C_InvalidProtected, C_InvalidCount, C_InvalidText, C_InvalidCommand, C_UnknownPlace, C_UnknownModule, C_UnknownCall, C_UnknownFunction, C_UnknownWorker, C_Unsteady, C_NotReady, C_NoMeaning, C_Protected, C_Missing, C_Circular, C_NameTaken, C_CallTaken, C_Busy, C_Idle, C_Turned, C_NothingToUndo, C_CommandFailed, C_TooMany] : List Addr).getD i 0, []⟩ : EV.Ctx) P w mg base 1 "CommandFailed" 30 ["position", "results"] ["results", "position"] [1, 0] := by
      obtain ⟨its, b⟩ := b_ew_CommandFailed
      exact ⟨.run, f_CommandFailed, _, _, _, _, PySem.W.mg_of X G ac_CommandFailed, errB_ok eb_CommandFailed, ai_CommandFailed, ti_CommandFailed, fldB_ok nf_CommandFailed, G_CommandFailed, b, fun x zs h => match zs, h with | [_, _], _ => rfl⟩
  have G_TooMany := ok_TooMany (P := P) (w := w) (base := base) (C := ⟨K, fun i => ([] : List Addr).getD i 0, fun i => ([C_MeantError, C_InvalidName, C_InvalidPath, C_InvalidArguments, C_InvalidProgram, C_InvalidOrder, C_InvalidChoices, C_InvalidPlace, C_InvalidFact, C_InvalidProtected, C_InvalidCount, C_InvalidText, C_InvalidCommand, C_UnknownPlace, C_UnknownModule, C_UnknownCall, C_UnknownFunction, C_UnknownWorker, C_Unsteady, C_NotReady, C_NoMeaning, C_Protected, C_Missing, C_Circular, C_NameTaken, C_CallTaken, C_Busy, C_Idle, C_Turned, C_NothingToUndo, C_CommandFailed, C_TooMany] : List Addr).getD i 0, []⟩) TT FD_TooMany
  have er_TooMany : ErrOk (⟨K, fun i => ([] : List Addr).getD i 0, fun i => ([C_MeantError, C_InvalidName, C_InvalidPath, C_InvalidArguments, C_InvalidProgram, C_InvalidOrder, C_InvalidChoices, C_InvalidPlace, C_InvalidFact, C_InvalidProtected, C_InvalidCount, C_InvalidText, C_InvalidCommand, C_UnknownPlace, C_UnknownModule, C_UnknownCall, C_UnknownFunction, C_UnknownWorker, C_Unsteady, C_NotReady, C_NoMeaning, C_Protected, C_Missing, C_Circular, C_NameTaken, C_CallTaken, C_Busy, C_Idle, C_Turned, C_NothingToUndo, C_CommandFailed, C_TooMany] : List Addr).getD i 0, []⟩ : EV.Ctx) P w mg base 1 "TooMany" 31 ["kind", "limit"] := ⟨.arith, f_TooMany, _, _, PySem.W.mg_of X G ac_TooMany, errB_ok eb_TooMany, ai_TooMany, ti_TooMany, fldB_ok nf_TooMany, G_TooMany, b_er_TooMany, rfl⟩
  have ew_TooMany : ErrKw (⟨K, fun i => ([] : List Addr).getD i 0, fun i => ([C_MeantError, C_InvalidName, C_InvalidPath, C_InvalidArguments, C_InvalidProgram, C_InvalidOrder, C_InvalidChoices, C_InvalidPlace, C_InvalidFact, C_InvalidProtected, C_InvalidCount, C_InvalidText, C_InvalidCommand, C_UnknownPlace, C_UnknownModule, C_UnknownCall, C_UnknownFunction, C_UnknownWorker, C_Unsteady, C_NotReady, C_NoMeaning, C_Protected, C_Missing, C_Circular, C_NameTaken, C_CallTaken, C_Busy, C_Idle, C_Turned, C_NothingToUndo, C_CommandFailed, C_TooMany] : List Addr).getD i 0, []⟩ : EV.Ctx) P w mg base 1 "TooMany" 31 ["kind", "limit"] ["limit", "kind"] [1, 0] := by
      obtain ⟨its, b⟩ := b_ew_TooMany
      exact ⟨.arith, f_TooMany, _, _, _, _, PySem.W.mg_of X G ac_TooMany, errB_ok eb_TooMany, ai_TooMany, ti_TooMany, fldB_ok nf_TooMany, G_TooMany, b, fun x zs h => match zs, h with | [_, _], _ => rfl⟩
  have G__law_rng := ok__law_rng (P := P) (w := w) (base := base) (C := ⟨K, fun i => ([] : List Addr).getD i 0, fun i => ([C_MeantError, C_InvalidName, C_InvalidPath, C_InvalidArguments, C_InvalidProgram, C_InvalidOrder, C_InvalidChoices, C_InvalidPlace, C_InvalidFact, C_InvalidProtected, C_InvalidCount, C_InvalidText, C_InvalidCommand, C_UnknownPlace, C_UnknownModule, C_UnknownCall, C_UnknownFunction, C_UnknownWorker, C_Unsteady, C_NotReady, C_NoMeaning, C_Protected, C_Missing, C_Circular, C_NameTaken, C_CallTaken, C_Busy, C_Idle, C_Turned, C_NothingToUndo, C_CommandFailed, C_TooMany] : List Addr).getD i 0, []⟩) TT  FD__law_rng
  have c__law_rng_2 : CallOk (⟨K, fun i => ([] : List Addr).getD i 0, fun i => ([C_MeantError, C_InvalidName, C_InvalidPath, C_InvalidArguments, C_InvalidProgram, C_InvalidOrder, C_InvalidChoices, C_InvalidPlace, C_InvalidFact, C_InvalidProtected, C_InvalidCount, C_InvalidText, C_InvalidCommand, C_UnknownPlace, C_UnknownModule, C_UnknownCall, C_UnknownFunction, C_UnknownWorker, C_Unsteady, C_NotReady, C_NoMeaning, C_Protected, C_Missing, C_Circular, C_NameTaken, C_CallTaken, C_Busy, C_Idle, C_Turned, C_NothingToUndo, C_CommandFailed, C_TooMany] : List Addr).getD i 0, []⟩ : EV.Ctx) P w mg base CX0 1 "_law_rng" 2 F__law_rng [] := callOk0 (qual := "_law_rng") FD__law_rng M__law_rng G__law_rng b_c__law_rng_2
  have G__law_draw := ok__law_draw (P := P) (w := w) (base := base) (C := ⟨K, fun i => ([] : List Addr).getD i 0, fun i => ([C_MeantError, C_InvalidName, C_InvalidPath, C_InvalidArguments, C_InvalidProgram, C_InvalidOrder, C_InvalidChoices, C_InvalidPlace, C_InvalidFact, C_InvalidProtected, C_InvalidCount, C_InvalidText, C_InvalidCommand, C_UnknownPlace, C_UnknownModule, C_UnknownCall, C_UnknownFunction, C_UnknownWorker, C_Unsteady, C_NotReady, C_NoMeaning, C_Protected, C_Missing, C_Circular, C_NameTaken, C_CallTaken, C_Busy, C_Idle, C_Turned, C_NothingToUndo, C_CommandFailed, C_TooMany] : List Addr).getD i 0, []⟩) TT  FD__law_draw
  have c__law_draw_2 : CallOk (⟨K, fun i => ([] : List Addr).getD i 0, fun i => ([C_MeantError, C_InvalidName, C_InvalidPath, C_InvalidArguments, C_InvalidProgram, C_InvalidOrder, C_InvalidChoices, C_InvalidPlace, C_InvalidFact, C_InvalidProtected, C_InvalidCount, C_InvalidText, C_InvalidCommand, C_UnknownPlace, C_UnknownModule, C_UnknownCall, C_UnknownFunction, C_UnknownWorker, C_Unsteady, C_NotReady, C_NoMeaning, C_Protected, C_Missing, C_Circular, C_NameTaken, C_CallTaken, C_Busy, C_Idle, C_Turned, C_NothingToUndo, C_CommandFailed, C_TooMany] : List Addr).getD i 0, []⟩ : EV.Ctx) P w mg base CX0 1 "_law_draw" 2 F__law_draw [] := callOk0 (qual := "_law_draw") FD__law_draw M__law_draw G__law_draw b_c__law_draw_2
  have G__law_choice := ok__law_choice (P := P) (w := w) (base := base) (C := ⟨K, fun i => ([] : List Addr).getD i 0, fun i => ([C_MeantError, C_InvalidName, C_InvalidPath, C_InvalidArguments, C_InvalidProgram, C_InvalidOrder, C_InvalidChoices, C_InvalidPlace, C_InvalidFact, C_InvalidProtected, C_InvalidCount, C_InvalidText, C_InvalidCommand, C_UnknownPlace, C_UnknownModule, C_UnknownCall, C_UnknownFunction, C_UnknownWorker, C_Unsteady, C_NotReady, C_NoMeaning, C_Protected, C_Missing, C_Circular, C_NameTaken, C_CallTaken, C_Busy, C_Idle, C_Turned, C_NothingToUndo, C_CommandFailed, C_TooMany] : List Addr).getD i 0, []⟩) TT c__law_draw_2 FD__law_choice
  have c__law_choice_2 : CallOk (⟨K, fun i => ([] : List Addr).getD i 0, fun i => ([C_MeantError, C_InvalidName, C_InvalidPath, C_InvalidArguments, C_InvalidProgram, C_InvalidOrder, C_InvalidChoices, C_InvalidPlace, C_InvalidFact, C_InvalidProtected, C_InvalidCount, C_InvalidText, C_InvalidCommand, C_UnknownPlace, C_UnknownModule, C_UnknownCall, C_UnknownFunction, C_UnknownWorker, C_Unsteady, C_NotReady, C_NoMeaning, C_Protected, C_Missing, C_Circular, C_NameTaken, C_CallTaken, C_Busy, C_Idle, C_Turned, C_NothingToUndo, C_CommandFailed, C_TooMany] : List Addr).getD i 0, []⟩ : EV.Ctx) P w mg base CX0 2 "_law_choice" 2 F__law_choice [] := callOk0 (qual := "_law_choice") FD__law_choice M__law_choice G__law_choice b_c__law_choice_2
  have G__law_value := ok__law_value (P := P) (w := w) (base := base) (C := ⟨K, fun i => ([] : List Addr).getD i 0, fun i => ([C_MeantError, C_InvalidName, C_InvalidPath, C_InvalidArguments, C_InvalidProgram, C_InvalidOrder, C_InvalidChoices, C_InvalidPlace, C_InvalidFact, C_InvalidProtected, C_InvalidCount, C_InvalidText, C_InvalidCommand, C_UnknownPlace, C_UnknownModule, C_UnknownCall, C_UnknownFunction, C_UnknownWorker, C_Unsteady, C_NotReady, C_NoMeaning, C_Protected, C_Missing, C_Circular, C_NameTaken, C_CallTaken, C_Busy, C_Idle, C_Turned, C_NothingToUndo, C_CommandFailed, C_TooMany] : List Addr).getD i 0, []⟩) TT c__law_choice_2 FD__law_value
  have c__law_value_1 : CallOk (⟨K, fun i => ([] : List Addr).getD i 0, fun i => ([C_MeantError, C_InvalidName, C_InvalidPath, C_InvalidArguments, C_InvalidProgram, C_InvalidOrder, C_InvalidChoices, C_InvalidPlace, C_InvalidFact, C_InvalidProtected, C_InvalidCount, C_InvalidText, C_InvalidCommand, C_UnknownPlace, C_UnknownModule, C_UnknownCall, C_UnknownFunction, C_UnknownWorker, C_Unsteady, C_NotReady, C_NoMeaning, C_Protected, C_Missing, C_Circular, C_NameTaken, C_CallTaken, C_Busy, C_Idle, C_Turned, C_NothingToUndo, C_CommandFailed, C_TooMany] : List Addr).getD i 0, []⟩ : EV.Ctx) P w mg base CX0 3 "_law_value" 1 F__law_value [] := callOk0 (qual := "_law_value") FD__law_value M__law_value G__law_value b_c__law_value_1
  have G__law_bases := ok__law_bases (P := P) (w := w) (base := base) (C := ⟨K, fun i => ([] : List Addr).getD i 0, fun i => ([C_MeantError, C_InvalidName, C_InvalidPath, C_InvalidArguments, C_InvalidProgram, C_InvalidOrder, C_InvalidChoices, C_InvalidPlace, C_InvalidFact, C_InvalidProtected, C_InvalidCount, C_InvalidText, C_InvalidCommand, C_UnknownPlace, C_UnknownModule, C_UnknownCall, C_UnknownFunction, C_UnknownWorker, C_Unsteady, C_NotReady, C_NoMeaning, C_Protected, C_Missing, C_Circular, C_NameTaken, C_CallTaken, C_Busy, C_Idle, C_Turned, C_NothingToUndo, C_CommandFailed, C_TooMany] : List Addr).getD i 0, []⟩) TT  FD__law_bases
  have c__law_bases_1 : CallOk (⟨K, fun i => ([] : List Addr).getD i 0, fun i => ([C_MeantError, C_InvalidName, C_InvalidPath, C_InvalidArguments, C_InvalidProgram, C_InvalidOrder, C_InvalidChoices, C_InvalidPlace, C_InvalidFact, C_InvalidProtected, C_InvalidCount, C_InvalidText, C_InvalidCommand, C_UnknownPlace, C_UnknownModule, C_UnknownCall, C_UnknownFunction, C_UnknownWorker, C_Unsteady, C_NotReady, C_NoMeaning, C_Protected, C_Missing, C_Circular, C_NameTaken, C_CallTaken, C_Busy, C_Idle, C_Turned, C_NothingToUndo, C_CommandFailed, C_TooMany] : List Addr).getD i 0, []⟩ : EV.Ctx) P w mg base CX0 1 "_law_bases" 1 F__law_bases [] := callOk0 (qual := "_law_bases") FD__law_bases M__law_bases G__law_bases b_c__law_bases_1
  have G__law_kinds := ok__law_kinds (P := P) (w := w) (base := base) (C := ⟨K, fun i => ([] : List Addr).getD i 0, fun i => ([C_MeantError, C_InvalidName, C_InvalidPath, C_InvalidArguments, C_InvalidProgram, C_InvalidOrder, C_InvalidChoices, C_InvalidPlace, C_InvalidFact, C_InvalidProtected, C_InvalidCount, C_InvalidText, C_InvalidCommand, C_UnknownPlace, C_UnknownModule, C_UnknownCall, C_UnknownFunction, C_UnknownWorker, C_Unsteady, C_NotReady, C_NoMeaning, C_Protected, C_Missing, C_Circular, C_NameTaken, C_CallTaken, C_Busy, C_Idle, C_Turned, C_NothingToUndo, C_CommandFailed, C_TooMany] : List Addr).getD i 0, []⟩) TT  FD__law_kinds
  have c__law_kinds_1 : CallOk (⟨K, fun i => ([] : List Addr).getD i 0, fun i => ([C_MeantError, C_InvalidName, C_InvalidPath, C_InvalidArguments, C_InvalidProgram, C_InvalidOrder, C_InvalidChoices, C_InvalidPlace, C_InvalidFact, C_InvalidProtected, C_InvalidCount, C_InvalidText, C_InvalidCommand, C_UnknownPlace, C_UnknownModule, C_UnknownCall, C_UnknownFunction, C_UnknownWorker, C_Unsteady, C_NotReady, C_NoMeaning, C_Protected, C_Missing, C_Circular, C_NameTaken, C_CallTaken, C_Busy, C_Idle, C_Turned, C_NothingToUndo, C_CommandFailed, C_TooMany] : List Addr).getD i 0, []⟩ : EV.Ctx) P w mg base CX0 1 "_law_kinds" 1 F__law_kinds [] := callOk0 (qual := "_law_kinds") FD__law_kinds M__law_kinds G__law_kinds b_c__law_kinds_1
  have G__law_ones_right := ok__law_ones_right (P := P) (w := w) (base := base) (C := ⟨K, fun i => ([] : List Addr).getD i 0, fun i => ([C_MeantError, C_InvalidName, C_InvalidPath, C_InvalidArguments, C_InvalidProgram, C_InvalidOrder, C_InvalidChoices, C_InvalidPlace, C_InvalidFact, C_InvalidProtected, C_InvalidCount, C_InvalidText, C_InvalidCommand, C_UnknownPlace, C_UnknownModule, C_UnknownCall, C_UnknownFunction, C_UnknownWorker, C_Unsteady, C_NotReady, C_NoMeaning, C_Protected, C_Missing, C_Circular, C_NameTaken, C_CallTaken, C_Busy, C_Idle, C_Turned, C_NothingToUndo, C_CommandFailed, C_TooMany] : List Addr).getD i 0, []⟩) TT er_InvalidArguments ew_InvalidPath er_InvalidPath ew_InvalidName er_InvalidName er_InvalidPlace ew_InvalidChoices er_InvalidChoices ew_InvalidArguments er_InvalidProtected ew_InvalidFact er_InvalidFact ew_InvalidPlace er_InvalidCommand ew_InvalidCount er_InvalidCount ew_InvalidProtected ew_InvalidCommand c__law_bases_1 er_UnknownCall ew_UnknownModule er_UnknownModule ew_UnknownPlace er_UnknownPlace er_UnknownWorker ew_UnknownFunction er_UnknownFunction ew_UnknownCall ew_UnknownWorker c__law_kinds_1 FD__law_ones_right
  have c__law_ones_right_1 : CallOk (⟨K, fun i => ([] : List Addr).getD i 0, fun i => ([C_MeantError, C_InvalidName, C_InvalidPath, C_InvalidArguments, C_InvalidProgram, C_InvalidOrder, C_InvalidChoices, C_InvalidPlace, C_InvalidFact, C_InvalidProtected, C_InvalidCount, C_InvalidText, C_InvalidCommand, C_UnknownPlace, C_UnknownModule, C_UnknownCall, C_UnknownFunction, C_UnknownWorker, C_Unsteady, C_NotReady, C_NoMeaning, C_Protected, C_Missing, C_Circular, C_NameTaken, C_CallTaken, C_Busy, C_Idle, C_Turned, C_NothingToUndo, C_CommandFailed, C_TooMany] : List Addr).getD i 0, []⟩ : EV.Ctx) P w mg base CX0 3 "_law_ones_right" 1 F__law_ones_right [] := callOk0 (qual := "_law_ones_right") FD__law_ones_right M__law_ones_right G__law_ones_right b_c__law_ones_right_1
  have G__law_states_right := ok__law_states_right (P := P) (w := w) (base := base) (C := ⟨K, fun i => ([] : List Addr).getD i 0, fun i => ([C_MeantError, C_InvalidName, C_InvalidPath, C_InvalidArguments, C_InvalidProgram, C_InvalidOrder, C_InvalidChoices, C_InvalidPlace, C_InvalidFact, C_InvalidProtected, C_InvalidCount, C_InvalidText, C_InvalidCommand, C_UnknownPlace, C_UnknownModule, C_UnknownCall, C_UnknownFunction, C_UnknownWorker, C_Unsteady, C_NotReady, C_NoMeaning, C_Protected, C_Missing, C_Circular, C_NameTaken, C_CallTaken, C_Busy, C_Idle, C_Turned, C_NothingToUndo, C_CommandFailed, C_TooMany] : List Addr).getD i 0, []⟩) TT ew_Unsteady er_Unsteady ew_NotReady er_NotReady ew_CallTaken er_CallTaken ew_Circular er_Circular ew_NameTaken er_NameTaken er_Turned ew_Idle er_Idle ew_Busy er_Busy ew_Turned ew_NothingToUndo er_NothingToUndo c__law_bases_1 c__law_kinds_1 FD__law_states_right
  have c__law_states_right_1 : CallOk (⟨K, fun i => ([] : List Addr).getD i 0, fun i => ([C_MeantError, C_InvalidName, C_InvalidPath, C_InvalidArguments, C_InvalidProgram, C_InvalidOrder, C_InvalidChoices, C_InvalidPlace, C_InvalidFact, C_InvalidProtected, C_InvalidCount, C_InvalidText, C_InvalidCommand, C_UnknownPlace, C_UnknownModule, C_UnknownCall, C_UnknownFunction, C_UnknownWorker, C_Unsteady, C_NotReady, C_NoMeaning, C_Protected, C_Missing, C_Circular, C_NameTaken, C_CallTaken, C_Busy, C_Idle, C_Turned, C_NothingToUndo, C_CommandFailed, C_TooMany] : List Addr).getD i 0, []⟩ : EV.Ctx) P w mg base CX0 3 "_law_states_right" 1 F__law_states_right [] := callOk0 (qual := "_law_states_right") FD__law_states_right M__law_states_right G__law_states_right b_c__law_states_right_1
  have G__law_pairs_right := ok__law_pairs_right (P := P) (w := w) (base := base) (C := ⟨K, fun i => ([] : List Addr).getD i 0, fun i => ([C_MeantError, C_InvalidName, C_InvalidPath, C_InvalidArguments, C_InvalidProgram, C_InvalidOrder, C_InvalidChoices, C_InvalidPlace, C_InvalidFact, C_InvalidProtected, C_InvalidCount, C_InvalidText, C_InvalidCommand, C_UnknownPlace, C_UnknownModule, C_UnknownCall, C_UnknownFunction, C_UnknownWorker, C_Unsteady, C_NotReady, C_NoMeaning, C_Protected, C_Missing, C_Circular, C_NameTaken, C_CallTaken, C_Busy, C_Idle, C_Turned, C_NothingToUndo, C_CommandFailed, C_TooMany] : List Addr).getD i 0, []⟩) TT ew_NoMeaning er_NoMeaning ew_Protected er_Protected ew_Missing er_Missing ew_CommandFailed er_CommandFailed ew_TooMany er_TooMany ew_InvalidProgram er_InvalidProgram c__law_kinds_1 c__law_bases_1 FD__law_pairs_right
  have c__law_pairs_right_2 : CallOk (⟨K, fun i => ([] : List Addr).getD i 0, fun i => ([C_MeantError, C_InvalidName, C_InvalidPath, C_InvalidArguments, C_InvalidProgram, C_InvalidOrder, C_InvalidChoices, C_InvalidPlace, C_InvalidFact, C_InvalidProtected, C_InvalidCount, C_InvalidText, C_InvalidCommand, C_UnknownPlace, C_UnknownModule, C_UnknownCall, C_UnknownFunction, C_UnknownWorker, C_Unsteady, C_NotReady, C_NoMeaning, C_Protected, C_Missing, C_Circular, C_NameTaken, C_CallTaken, C_Busy, C_Idle, C_Turned, C_NothingToUndo, C_CommandFailed, C_TooMany] : List Addr).getD i 0, []⟩ : EV.Ctx) P w mg base CX0 3 "_law_pairs_right" 2 F__law_pairs_right [] := callOk0 (qual := "_law_pairs_right") FD__law_pairs_right M__law_pairs_right G__law_pairs_right b_c__law_pairs_right_2
  have G__law_numbers_right := ok__law_numbers_right (P := P) (w := w) (base := base) (C := ⟨K, fun i => ([] : List Addr).getD i 0, fun i => ([C_MeantError, C_InvalidName, C_InvalidPath, C_InvalidArguments, C_InvalidProgram, C_InvalidOrder, C_InvalidChoices, C_InvalidPlace, C_InvalidFact, C_InvalidProtected, C_InvalidCount, C_InvalidText, C_InvalidCommand, C_UnknownPlace, C_UnknownModule, C_UnknownCall, C_UnknownFunction, C_UnknownWorker, C_Unsteady, C_NotReady, C_NoMeaning, C_Protected, C_Missing, C_Circular, C_NameTaken, C_CallTaken, C_Busy, C_Idle, C_Turned, C_NothingToUndo, C_CommandFailed, C_TooMany] : List Addr).getD i 0, []⟩) TT ew_InvalidOrder er_InvalidOrder ew_InvalidText er_InvalidText c__law_bases_1 c__law_kinds_1 FD__law_numbers_right
  have c__law_numbers_right_1 : CallOk (⟨K, fun i => ([] : List Addr).getD i 0, fun i => ([C_MeantError, C_InvalidName, C_InvalidPath, C_InvalidArguments, C_InvalidProgram, C_InvalidOrder, C_InvalidChoices, C_InvalidPlace, C_InvalidFact, C_InvalidProtected, C_InvalidCount, C_InvalidText, C_InvalidCommand, C_UnknownPlace, C_UnknownModule, C_UnknownCall, C_UnknownFunction, C_UnknownWorker, C_Unsteady, C_NotReady, C_NoMeaning, C_Protected, C_Missing, C_Circular, C_NameTaken, C_CallTaken, C_Busy, C_Idle, C_Turned, C_NothingToUndo, C_CommandFailed, C_TooMany] : List Addr).getD i 0, []⟩ : EV.Ctx) P w mg base CX0 3 "_law_numbers_right" 1 F__law_numbers_right [] := callOk0 (qual := "_law_numbers_right") FD__law_numbers_right M__law_numbers_right G__law_numbers_right b_c__law_numbers_right_1
  have G_law := ok_law (P := P) (w := w) (base := base) (C := ⟨K, fun i => ([] : List Addr).getD i 0, fun i => ([C_MeantError, C_InvalidName, C_InvalidPath, C_InvalidArguments, C_InvalidProgram, C_InvalidOrder, C_InvalidChoices, C_InvalidPlace, C_InvalidFact, C_InvalidProtected, C_InvalidCount, C_InvalidText, C_InvalidCommand, C_UnknownPlace, C_UnknownModule, C_UnknownCall, C_UnknownFunction, C_UnknownWorker, C_Unsteady, C_NotReady, C_NoMeaning, C_Protected, C_Missing, C_Circular, C_NameTaken, C_CallTaken, C_Busy, C_Idle, C_Turned, C_NothingToUndo, C_CommandFailed, C_TooMany] : List Addr).getD i 0, []⟩) TT c__law_bases_1 c__law_kinds_1 c__law_rng_2 c__law_value_1 c__law_ones_right_1 c__law_states_right_1 c__law_pairs_right_2 c__law_numbers_right_1 FD_law
  exact G_law
end EV
open PySem PySem.W PyProof.Rows in
set_option maxRecDepth 100000 in
set_option maxHeartbeats 0 in
theorem PySem.Challenge.cw_evermeant_k18_errors_created_holds : PySem.Challenge.rw_evermeant_k18_errors_created.Holds := by
  w_on; o_law; k_headL; (case hw => w_witness2)
  k_fill
  refine EV.walk_G (l := PySem.Challenge.rw_evermeant_k18_errors_created) (n := 63) (k := 4) (x := "_law_script") (CX := fun _ => L2.CX0) (F := fun _ => EV.F_law) rfl (by decide) rfl ⟨rfl, by decide, by decide⟩ (fun w h Y => PySem.W.kIn_of Y) ?F ?hF ?hCX
  case hCX => exact fun _ _ _ _ _ z => z
  case hF => exact fun _ ns hn => EV.law_true ns hn
  case F =>
   as_aux_lemma =>
    intro w mg fa h KX G hmg
    refine' EV.all_mk KX G hmg ?z_ArithmeticError ?z_Exception ?z_LookupError ?z_RuntimeError ?z_ValueError ?z_abs ?z_all ?z_divmod ?z_isinstance ?z_len ?z_max ?z_min ?z_range ?z_repr ?z_sum ?ac_MeantError ?ac_InvalidName ?ac_InvalidPath ?ac_InvalidArguments ?ac_InvalidProgram ?ac_InvalidOrder ?ac_InvalidChoices ?ac_InvalidPlace ?ac_InvalidFact ?ac_InvalidProtected ?ac_InvalidCount ?ac_InvalidText ?ac_InvalidCommand ?ac_UnknownPlace ?ac_UnknownModule ?ac_UnknownCall ?ac_UnknownFunction ?ac_UnknownWorker ?ac_Unsteady ?ac_NotReady ?ac_NoMeaning ?ac_Protected ?ac_Missing ?ac_Circular ?ac_NameTaken ?ac_CallTaken ?ac_Busy ?ac_Idle ?ac_Turned ?ac_NothingToUndo ?ac_CommandFailed ?ac_TooMany ?exget ?extk ?ek_MeantError ?rd_MeantError ?ga_MeantError ?vi_MeantError ?vb_LookupError ?vb_RuntimeError ?vb_ArithmeticError ?ai_InvalidName ?ti_InvalidName ?l_InvalidName ?c_InvalidName ?k_InvalidName ?ai_InvalidPath ?ti_InvalidPath ?l_InvalidPath ?c_InvalidPath ?k_InvalidPath ?ai_InvalidArguments ?ti_InvalidArguments ?l_InvalidArguments ?c_InvalidArguments ?k_InvalidArguments ?ai_InvalidProgram ?ti_InvalidProgram ?l_InvalidProgram ?c_InvalidProgram ?k_InvalidProgram ?ai_InvalidOrder ?ti_InvalidOrder ?l_InvalidOrder ?c_InvalidOrder ?k_InvalidOrder ?ai_InvalidChoices ?ti_InvalidChoices ?l_InvalidChoices ?c_InvalidChoices ?k_InvalidChoices ?ai_InvalidPlace ?ti_InvalidPlace ?l_InvalidPlace ?c_InvalidPlace ?k_InvalidPlace ?ai_InvalidFact ?ti_InvalidFact ?l_InvalidFact ?c_InvalidFact ?k_InvalidFact ?ai_InvalidProtected ?ti_InvalidProtected ?l_InvalidProtected ?c_InvalidProtected ?k_InvalidProtected ?ai_InvalidCount ?ti_InvalidCount ?l_InvalidCount ?c_InvalidCount ?k_InvalidCount ?ai_InvalidText ?ti_InvalidText ?l_InvalidText ?c_InvalidText ?k_InvalidText ?ai_InvalidCommand ?ti_InvalidCommand ?l_InvalidCommand ?c_InvalidCommand ?k_InvalidCommand ?ai_UnknownPlace ?ti_UnknownPlace ?l_UnknownPlace ?c_UnknownPlace ?k_UnknownPlace ?ai_UnknownModule ?ti_UnknownModule ?l_UnknownModule ?c_UnknownModule ?k_UnknownModule ?ai_UnknownCall ?ti_UnknownCall ?l_UnknownCall ?c_UnknownCall ?k_UnknownCall ?ai_UnknownFunction ?ti_UnknownFunction ?l_UnknownFunction ?c_UnknownFunction ?k_UnknownFunction ?ai_UnknownWorker ?ti_UnknownWorker ?l_UnknownWorker ?c_UnknownWorker ?k_UnknownWorker ?ai_Unsteady ?ti_Unsteady ?l_Unsteady ?c_Unsteady ?k_Unsteady ?ai_NotReady ?ti_NotReady ?l_NotReady ?c_NotReady ?k_NotReady ?ai_NoMeaning ?ti_NoMeaning ?l_NoMeaning ?c_NoMeaning ?k_NoMeaning ?ai_Protected ?ti_Protected ?l_Protected ?c_Protected ?k_Protected ?ai_Missing ?ti_Missing ?l_Missing ?c_Missing ?k_Missing ?ai_Circular ?ti_Circular ?l_Circular ?c_Circular ?k_Circular ?ai_NameTaken ?ti_NameTaken ?l_NameTaken ?c_NameTaken ?k_NameTaken ?ai_CallTaken ?ti_CallTaken ?l_CallTaken ?c_CallTaken ?k_CallTaken ?ai_Busy ?ti_Busy ?l_Busy ?c_Busy ?k_Busy ?ai_Idle ?ti_Idle ?l_Idle ?c_Idle ?k_Idle ?ai_Turned ?ti_Turned ?l_Turned ?c_Turned ?k_Turned ?ai_NothingToUndo ?ti_NothingToUndo ?l_NothingToUndo ?c_NothingToUndo ?k_NothingToUndo ?ai_CommandFailed ?ti_CommandFailed ?l_CommandFailed ?c_CommandFailed ?k_CommandFailed ?ai_TooMany ?ti_TooMany ?l_TooMany ?c_TooMany ?k_TooMany ?a__law_rng ?l__law_rng ?c__law_rng ?k__law_rng ?a__law_draw ?l__law_draw ?c__law_draw ?k__law_draw ?a__law_choice ?l__law_choice ?c__law_choice ?k__law_choice ?a__law_value ?l__law_value ?c__law_value ?k__law_value ?a__law_bases ?l__law_bases ?c__law_bases ?k__law_bases ?a__law_kinds ?l__law_kinds ?c__law_kinds ?k__law_kinds ?a__law_ones_right ?l__law_ones_right ?c__law_ones_right ?k__law_ones_right ?a__law_states_right ?l__law_states_right ?c__law_states_right ?k__law_states_right ?a__law_pairs_right ?l__law_pairs_right ?c__law_pairs_right ?k__law_pairs_right ?a__law_numbers_right ?l__law_numbers_right ?c__law_numbers_right ?k__law_numbers_right ?a_law ?l_law ?c_law ?k_law ?chk
    (case z_ArithmeticError => k_is)
    (case z_Exception => k_is)
    (case z_LookupError => k_is)
    (case z_RuntimeError => k_is)
    (case z_ValueError => k_is)
    (case z_abs => k_is)
    (case z_all => k_is)
    (case z_divmod => k_is)
    (case z_isinstance => k_is)
    (case z_len => k_is)
    (case z_max => k_is)
    (case z_min => k_is)
    (case z_range => k_is)
    (case z_repr => k_is)
    (case z_sum => k_is)
    (case ac_MeantError => k_is)
    (case ac_InvalidName => k_is)
    (case ac_InvalidPath => k_is)
    (case ac_InvalidArguments => k_is)
    (case ac_InvalidProgram => k_is)
    (case ac_InvalidOrder => k_is)
    (case ac_InvalidChoices => k_is)
    (case ac_InvalidPlace => k_is)
    (case ac_InvalidFact => k_is)
    (case ac_InvalidProtected => k_is)
    (case ac_InvalidCount => k_is)
    (case ac_InvalidText => k_is)
    (case ac_InvalidCommand => k_is)
    (case ac_UnknownPlace => k_is)
    (case ac_UnknownModule => k_is)
    (case ac_UnknownCall => k_is)
    (case ac_UnknownFunction => k_is)
    (case ac_UnknownWorker => k_is)
    (case ac_Unsteady => k_is)
    (case ac_NotReady => k_is)
    (case ac_NoMeaning => k_is)
    (case ac_Protected => k_is)
    (case ac_Missing => k_is)
    (case ac_Circular => k_is)
    (case ac_NameTaken => k_is)
    (case ac_CallTaken => k_is)
    (case ac_Busy => k_is)
    (case ac_Idle => k_is)
    (case ac_Turned => k_is)
    (case ac_NothingToUndo => k_is)
    (case ac_CommandFailed => k_is)
    (case ac_TooMany => k_is)
    (case exget => k_is)
    (case extk => k_is)
    (case ek_MeantError => k_is)
    (case rd_MeantError => k_is)
    (case ga_MeantError => k_is)
    (case vi_MeantError => k_is)
    (case vb_LookupError => k_is)
    (case vb_RuntimeError => k_is)
    (case vb_ArithmeticError => k_is)
    (case ai_InvalidName => k_is)
    (case ti_InvalidName => k_is)
    (case l_InvalidName => k_is)
    (case c_InvalidName => k_is)
    (case k_InvalidName => k_is)
    (case ai_InvalidPath => k_is)
    (case ti_InvalidPath => k_is)
    (case l_InvalidPath => k_is)
    (case c_InvalidPath => k_is)
    (case k_InvalidPath => k_is)
    (case ai_InvalidArguments => k_is)
    (case ti_InvalidArguments => k_is)
    (case l_InvalidArguments => k_is)
    (case c_InvalidArguments => k_is)
    (case k_InvalidArguments => k_is)
    (case ai_InvalidProgram => k_is)
    (case ti_InvalidProgram => k_is)
    (case l_InvalidProgram => k_is)
    (case c_InvalidProgram => k_is)
    (case k_InvalidProgram => k_is)
    (case ai_InvalidOrder => k_is)
    (case ti_InvalidOrder => k_is)
    (case l_InvalidOrder => k_is)
    (case c_InvalidOrder => k_is)
    (case k_InvalidOrder => k_is)
    (case ai_InvalidChoices => k_is)
    (case ti_InvalidChoices => k_is)
    (case l_InvalidChoices => k_is)
    (case c_InvalidChoices => k_is)
    (case k_InvalidChoices => k_is)
    (case ai_InvalidPlace => k_is)
    (case ti_InvalidPlace => k_is)
    (case l_InvalidPlace => k_is)
    (case c_InvalidPlace => k_is)
    (case k_InvalidPlace => k_is)
    (case ai_InvalidFact => k_is)
    (case ti_InvalidFact => k_is)
    (case l_InvalidFact => k_is)
    (case c_InvalidFact => k_is)
    (case k_InvalidFact => k_is)
    (case ai_InvalidProtected => k_is)
    (case ti_InvalidProtected => k_is)
    (case l_InvalidProtected => k_is)
    (case c_InvalidProtected => k_is)
    (case k_InvalidProtected => k_is)
    (case ai_InvalidCount => k_is)
    (case ti_InvalidCount => k_is)
    (case l_InvalidCount => k_is)
    (case c_InvalidCount => k_is)
    (case k_InvalidCount => k_is)
    (case ai_InvalidText => k_is)
    (case ti_InvalidText => k_is)
    (case l_InvalidText => k_is)
    (case c_InvalidText => k_is)
    (case k_InvalidText => k_is)
    (case ai_InvalidCommand => k_is)
    (case ti_InvalidCommand => k_is)
    (case l_InvalidCommand => k_is)
    (case c_InvalidCommand => k_is)
    (case k_InvalidCommand => k_is)
    (case ai_UnknownPlace => k_is)
    (case ti_UnknownPlace => k_is)
    (case l_UnknownPlace => k_is)
    (case c_UnknownPlace => k_is)
    (case k_UnknownPlace => k_is)
    (case ai_UnknownModule => k_is)
    (case ti_UnknownModule => k_is)
    (case l_UnknownModule => k_is)
    (case c_UnknownModule => k_is)
    (case k_UnknownModule => k_is)
    (case ai_UnknownCall => k_is)
    (case ti_UnknownCall => k_is)
    (case l_UnknownCall => k_is)
    (case c_UnknownCall => k_is)
    (case k_UnknownCall => k_is)
    (case ai_UnknownFunction => k_is)
    (case ti_UnknownFunction => k_is)
    (case l_UnknownFunction => k_is)
    (case c_UnknownFunction => k_is)
    (case k_UnknownFunction => k_is)
    (case ai_UnknownWorker => k_is)
    (case ti_UnknownWorker => k_is)
    (case l_UnknownWorker => k_is)
    (case c_UnknownWorker => k_is)
    (case k_UnknownWorker => k_is)
    (case ai_Unsteady => k_is)
    (case ti_Unsteady => k_is)
    (case l_Unsteady => k_is)
    (case c_Unsteady => k_is)
    (case k_Unsteady => k_is)
    (case ai_NotReady => k_is)
    (case ti_NotReady => k_is)
    (case l_NotReady => k_is)
    (case c_NotReady => k_is)
    (case k_NotReady => k_is)
    (case ai_NoMeaning => k_is)
    (case ti_NoMeaning => k_is)
    (case l_NoMeaning => k_is)
    (case c_NoMeaning => k_is)
    (case k_NoMeaning => k_is)
    (case ai_Protected => k_is)
    (case ti_Protected => k_is)
    (case l_Protected => k_is)
    (case c_Protected => k_is)
    (case k_Protected => k_is)
    (case ai_Missing => k_is)
    (case ti_Missing => k_is)
    (case l_Missing => k_is)
    (case c_Missing => k_is)
    (case k_Missing => k_is)
    (case ai_Circular => k_is)
    (case ti_Circular => k_is)
    (case l_Circular => k_is)
    (case c_Circular => k_is)
    (case k_Circular => k_is)
    (case ai_NameTaken => k_is)
    (case ti_NameTaken => k_is)
    (case l_NameTaken => k_is)
    (case c_NameTaken => k_is)
    (case k_NameTaken => k_is)
    (case ai_CallTaken => k_is)
    (case ti_CallTaken => k_is)
    (case l_CallTaken => k_is)
    (case c_CallTaken => k_is)
    (case k_CallTaken => k_is)
    (case ai_Busy => k_is)
    (case ti_Busy => k_is)
    (case l_Busy => k_is)
    (case c_Busy => k_is)
    (case k_Busy => k_is)
    (case ai_Idle => k_is)
    (case ti_Idle => k_is)
    (case l_Idle => k_is)
    (case c_Idle => k_is)
    (case k_Idle => k_is)
    (case ai_Turned => k_is)
    (case ti_Turned => k_is)
    (case l_Turned => k_is)
    (case c_Turned => k_is)
    (case k_Turned => k_is)
    (case ai_NothingToUndo => k_is)
    (case ti_NothingToUndo => k_is)
    (case l_NothingToUndo => k_is)
    (case c_NothingToUndo => k_is)
    (case k_NothingToUndo => k_is)
    (case ai_CommandFailed => k_is)
    (case ti_CommandFailed => k_is)
    (case l_CommandFailed => k_is)
    (case c_CommandFailed => k_is)
    (case k_CommandFailed => k_is)
    (case ai_TooMany => k_is)
    (case ti_TooMany => k_is)
    (case l_TooMany => k_is)
    (case c_TooMany => k_is)
    (case k_TooMany => k_is)
    (case a__law_rng => k_is)
    (case l__law_rng => k_is)
    (case c__law_rng => k_is)
    (case k__law_rng => k_is)
    (case a__law_draw => k_is)
    (case l__law_draw => k_is)
    (case c__law_draw => k_is)
    (case k__law_draw => k_is)
    (case a__law_choice => k_is)
    (case l__law_choice => k_is)
    (case c__law_choice => k_is)
    (case k__law_choice => k_is)
    (case a__law_value => k_is)
    (case l__law_value => k_is)
    (case c__law_value => k_is)
    (case k__law_value => k_is)
    (case a__law_bases => k_is)
    (case l__law_bases => k_is)
    (case c__law_bases => k_is)
    (case k__law_bases => k_is)
    (case a__law_kinds => k_is)
    (case l__law_kinds => k_is)
    (case c__law_kinds => k_is)
    (case k__law_kinds => k_is)
    (case a__law_ones_right => k_is)
    (case l__law_ones_right => k_is)
    (case c__law_ones_right => k_is)
    (case k__law_ones_right => k_is)
    (case a__law_states_right => k_is)
    (case l__law_states_right => k_is)
    (case c__law_states_right => k_is)
    (case k__law_states_right => k_is)
    (case a__law_pairs_right => k_is)
    (case l__law_pairs_right => k_is)
    (case c__law_pairs_right => k_is)
    (case k__law_pairs_right => k_is)
    (case a__law_numbers_right => k_is)
    (case l__law_numbers_right => k_is)
    (case c__law_numbers_right => k_is)
    (case k__law_numbers_right => k_is)
    (case a_law => k_is)
    (case l_law => k_is)
    (case c_law => k_is)
    (case k_law => k_is)
    (case chk => as_aux_lemma => kernel_rfl)
    all_goals exact default
