import PyProof.Rows.All
import Wide.All
import OpenK.AllK
import Wide.FinOn
import HandS.ForMost
import KE.KDictKeyed
import KE.DataEq
import KE.DataCmp
import HandS.Wide
import HandS.TupAny
import HandS.TupMul
import HandS.Style
import KE.DataIsa
import HandS.Walk
import HandS.More
import HandS.SetKeys
import HandS.Zip
import KE.KDictZip
import KE.DatumOrd
import PySem.Challenge.RW_rulehall_k22_plain_rules
set_option Elab.async false
set_option linter.all false
set_option maxRecDepth 100000
set_option maxHeartbeats 4000000
set_option autoImplicit false
/-! Pv: pure data over the hand layer. Part 1: results, slots, what a value holds, the state. -/
namespace Pv
open PySem PySem.Spec PyProof.Rows L2

/-! ### results -/
/-- an exception: its class by name, what it carries -/
structure Xn where
  C : Str
  arg : PyData
inductive R (α : Type) where
  | ok (a : α)
  | ex (x : Xn)
  | st
def R.bind {α β : Type} (r : R α) (f : α → R β) : R β := match r with
  | .ok a => f a
  | .ex x => .ex x
  | .st => .st
instance : Monad R where
  pure a := .ok a
  bind := R.bind
/-- what is to hold of a result: k of a value, w of an exception -/
def OkR {α : Type} (r : R α) (k : α → Prop) (w : Xn → Prop) : Prop := match r with
  | .ok a => k a
  | .ex x => w x
  | .st => False
theorem okR_bind {α β : Type} {r : R α} {f : α → R β} {k : β → Prop} {w : Xn → Prop} : OkR (r.bind f) k w ↔ OkR r (fun a => OkR (f a) k w) w := by
  cases r <;> exact Iff.rfl
theorem okR_mono {α : Type} {r : R α} {k k' : α → Prop} {w : Xn → Prop} (h : OkR r k w) (hk : ∀ a, r = .ok a → k a → k' a) : OkR r k' w := by
  cases r with
  | ok a => exact hk a rfl h
  | ex x => exact h
  | st => exact h
theorem okR_mono2 {α : Type} {r : R α} {k k' : α → Prop} {w w' : Xn → Prop} (h : OkR r k w) (hk : ∀ a, r = .ok a → k a → k' a) (hw : ∀ x, r = .ex x → w x → w' x) : OkR r k' w' := by
  cases r with
  | ok a => exact hk a rfl h
  | ex x => exact hw x rfl h
  | st => exact h
theorem okR_ok {α : Type} {r : R α} {a : α} {k : α → Prop} {w : Xn → Prop} (e : r = .ok a) (h : k a) : OkR r k w := by
  subst e; exact h

/-! ### slots -/
inductive Sl where
  | un
  | fr (d : PyData)
  | ow (d : PyData)
  | bo (d : PyData)
abbrev Env := List Sl

/-! ### the heap: extension -/
theorem same_updNew {H : Hp} {p : Addr} {o : HO} (h : H p = none) : Same H (upd H p o) := fun b x e => by
  rw [upd_ne (ne_of_none e h)]; exact e
theorem same_updR {F H : Hp} {p : Addr} {o : HO} (s : Same F H) (h : F p = none) : Same F (upd H p o) := fun b x e => by
  rw [upd_ne (ne_of_none e h)]; exact s b x e
theorem same_rd {H H' : Hp} (s : Same H H') {a : Addr} {u : HO} (h : Rd H a u) : Rd H' a u := by
  rcases h with h | ⟨o, h⟩
  · exact .inl (s _ _ h)
  · exact .inr ⟨o, s _ _ h⟩
theorem same_sqL {K : PySem.W.Frag} {H H' : Hp} (s : Same H H') {a : Addr} {xs : List V} (h : SqL K H a xs) : SqL K H' a xs := h.imp (same_rd s) id
theorem same_sqT {K : PySem.W.Frag} {H H' : Hp} (s : Same H H') {a : Addr} {xs : List V} (h : SqT K H a xs) : SqT K H' a xs := h.imp (same_rd s) id

/-- frozen data F within the heap H goes on to F' within H': nothing that stood is changed, what is frozen anew was not there -/
structure Ext (F H F' H' : Hp) : Prop where
  fr : Same F F'
  all : Same H H'
  sub : Same F' H'
  new : ∀ a o, F' a = some o → F a = some o ∨ H a = none
theorem Ext.refl {F H : Hp} (s : Same F H) : Ext F H F H := ⟨Same.refl F, Same.refl H, s, fun _ _ e => .inl e⟩
theorem Ext.trans {F H F1 H1 F2 H2 : Hp} (a : Ext F H F1 H1) (b : Ext F1 H1 F2 H2) : Ext F H F2 H2 :=
  ⟨a.fr.trans b.fr, a.all.trans b.all, b.sub, fun p o e => by
    rcases b.new p o e with z | z
    · exact a.new p o z
    · exact .inr (a.all.free z)⟩
theorem Ext.none {F H F' H' : Hp} (e : Ext F H F' H') {a : Addr} {o : HO} (hf : F a = Option.none) (ho : H a = some o) : F' a = Option.none := by
  cases q : F' a with
  | none => rfl
  | some u =>
    rcases e.new a u q with z | z
    · rw [hf] at z; cases z
    · rw [ho] at z; cases z
/-- a new object, not frozen; frozen -/
theorem Ext.push {F H : Hp} (s : Same F H) {p : Addr} {o : HO} (h : H p = Option.none) : Ext F H F (upd H p o) :=
  ⟨Same.refl F, same_updNew h, s.trans (same_updNew h), fun _ _ e => .inl e⟩
theorem Ext.frz {F H : Hp} (s : Same F H) {p : Addr} {o : HO} (h : H p = Option.none) : Ext F H (upd F p o) (upd H p o) :=
  ⟨same_updNew (s.free h), same_updNew h, fun b x e => by
    by_cases hb : b = p
    · subst hb; rw [upd_same] at e ⊢; exact e
    · rw [upd_ne hb] at e ⊢; exact s _ _ e, fun b x e => by
    by_cases hb : b = p
    · subst hb; exact .inr h
    · rw [upd_ne hb] at e; exact .inl e⟩

/-! ### dicts whose keys are tuples -/
section
variable (P : Program) (w : World)
def DnOk (a : Addr) (ks : List (NestedKey × Addr × V)) (h : Heap) : Prop :=
  ks.length ≤ sizeLine ∧ (a == sysModules) = false ∧ ∃ xs : List (NestedKey × Addr × Value), Paired (fun (p : NestedKey × Addr × V) (q : NestedKey × Addr × Value) => p.1 = q.1 ∧ p.2.1 = q.2.1 ∧ RelV p.2.2 q.2.2) ks xs ∧
    ∃ o es ep, h.get? a = some o ∧ o.ExactDict ∧ o.data = .dict es ep ∧ es.toList = xs.map (entryOfKey (nestedKind P w)) ∧ (xs.map (·.1)).Nodup
def dN (a : Addr) (ks : List (NestedKey × Addr × V)) : HO := .ext (DnOk P w a ks)
end

/-! ### what a value holds -/
structure Bs where
  P : Program
  w : World
  K : PySem.W.Frag
/-- what stands ahead of the entries of a dict whose keys are tuples -/
abbrev mkN : PyData × PyData := (.none, .none)
def keyD : Key → PyData
  | .inl i => .int i
  | .inr x => .str x
mutual
inductive Is (B : Bs) (H : Hp) : V → PyData → Prop
  | non : Is B H .non .none
  | bl (b : Bool) : Is B H (.bl b) (.bool b)
  | int (i : Int) : Is B H (.int i) (.int i)
  | str (x : Str) : Is B H (.str x) (.str x)
  | lst {a : Addr} {xs : List V} {ds : List PyData} : H a = some (.lst xs) → xs.length ≤ sizeLine → IsAll B H xs ds → Is B H (.ref a) (.list ds)
  | tup {a : Addr} {xs : List V} {ds : List PyData} : SqT B.K H a xs → xs.length ≤ sizeLine → IsAll B H xs ds → Is B H (.ref a) (.tuple ds)
  | dK {a : Addr} {kvs : List (Key × V)} {es : List (PyData × PyData)} : Rd H a (.dK kvs) → IsKV B H kvs es → Is B H (.ref a) (.dict es)
  | dN {a : Addr} {ks : List (NestedKey × Addr × V)} {es : List (PyData × PyData)} : H a = some (dN B.P B.w a ks) → IsNV B H ks es → Is B H (.ref a) (.dict (mkN :: es))
inductive IsAll (B : Bs) (H : Hp) : List V → List PyData → Prop
  | nil : IsAll B H [] []
  | cons {v : V} {vs : List V} {d : PyData} {ds : List PyData} : Is B H v d → IsAll B H vs ds → IsAll B H (v :: vs) (d :: ds)
inductive IsKV (B : Bs) (H : Hp) : List (Key × V) → List (PyData × PyData) → Prop
  | nil : IsKV B H [] []
  | cons {k : Key} {v : V} {r : List (Key × V)} {d : PyData} {es : List (PyData × PyData)} : Is B H v d → IsKV B H r es → IsKV B H ((k, v) :: r) ((keyD k, d) :: es)
inductive IsNV (B : Bs) (H : Hp) : List (NestedKey × Addr × V) → List (PyData × PyData) → Prop
  | nil : IsNV B H [] []
  | cons {k : NestedKey} {a : Addr} {v : V} {r : List (NestedKey × Addr × V)} {d : PyData} {es : List (PyData × PyData)} : Is B H (.ref a) k.data → Is B H v d → IsNV B H r es → IsNV B H ((k, a, v) :: r) ((k.data, d) :: es)
end
section
variable {B : Bs} {H H' : Hp}
mutual
theorem Is.mono (s : Same H H') : ∀ {v : V} {d : PyData}, Is B H v d → Is B H' v d
  | _, _, .non => .non
  | _, _, .bl b => .bl b
  | _, _, .int i => .int i
  | _, _, .str x => .str x
  | _, _, .lst h z a => .lst (s _ _ h) z (IsAll.mono s a)
  | _, _, .tup h z a => .tup (same_sqT s h) z (IsAll.mono s a)
  | _, _, .dK h a => .dK (same_rd s h) (IsKV.mono s a)
  | _, _, .dN h a => .dN (s _ _ h) (IsNV.mono s a)
theorem IsAll.mono (s : Same H H') : ∀ {vs : List V} {ds : List PyData}, IsAll B H vs ds → IsAll B H' vs ds
  | _, _, .nil => .nil
  | _, _, .cons h r => .cons (Is.mono s h) (IsAll.mono s r)
theorem IsKV.mono (s : Same H H') : ∀ {vs : List (Key × V)} {ds : List (PyData × PyData)}, IsKV B H vs ds → IsKV B H' vs ds
  | _, _, .nil => .nil
  | _, _, .cons h r => .cons (Is.mono s h) (IsKV.mono s r)
theorem IsNV.mono (s : Same H H') : ∀ {vs : List (NestedKey × Addr × V)} {ds : List (PyData × PyData)}, IsNV B H vs ds → IsNV B H' vs ds
  | _, _, .nil => .nil
  | _, _, .cons k h r => .cons (Is.mono s k) (Is.mono s h) (IsNV.mono s r)
end
theorem IsAll.length : ∀ {vs : List V} {ds : List PyData}, IsAll B H vs ds → vs.length = ds.length
  | _, _, .nil => rfl
  | _, _, .cons _ r => congrArg (· + 1) (IsAll.length r)
theorem IsAll.get : ∀ {vs : List V} {ds : List PyData} {i : Nat} {v : V}, IsAll B H vs ds → vs[i]? = some v → ∃ d, ds[i]? = some d ∧ Is B H v d
  | _, _, i, v, .nil, e => by simp at e
  | _, _, 0, v, .cons h _, e => by
    have e : _ = v := Option.some.inj e
    subst e; exact ⟨_, rfl, h⟩
  | _, _, i + 1, v, .cons _ r, e => IsAll.get (i := i) r e
theorem IsAll.getD : ∀ {vs : List V} {ds : List PyData} {i : Nat} {d : PyData}, IsAll B H vs ds → ds[i]? = some d → ∃ v, vs[i]? = some v ∧ Is B H v d
  | _, _, i, v, .nil, e => by simp at e
  | _, _, 0, v, .cons h _, e => by
    have e : _ = v := Option.some.inj e
    subst e; exact ⟨_, rfl, h⟩
  | _, _, i + 1, v, .cons _ r, e => IsAll.getD (i := i) r e
theorem IsAll.append : ∀ {vs ws : List V} {ds es : List PyData}, IsAll B H vs ds → IsAll B H ws es → IsAll B H (vs ++ ws) (ds ++ es)
  | _, _, _, _, .nil, s => s
  | _, _, _, _, .cons h r, s => .cons h (IsAll.append r s)
theorem IsAll.take : ∀ {vs : List V} {ds : List PyData} (n : Nat), IsAll B H vs ds → IsAll B H (vs.take n) (ds.take n)
  | _, _, 0, _ => .nil
  | _, _, _ + 1, .nil => .nil
  | _, _, n + 1, .cons h r => .cons h (IsAll.take n r)
theorem IsAll.drop : ∀ {vs : List V} {ds : List PyData} (n : Nat), IsAll B H vs ds → IsAll B H (vs.drop n) (ds.drop n)
  | _, _, 0, r => r
  | _, _, _ + 1, .nil => .nil
  | _, _, n + 1, .cons _ r => IsAll.drop n r
theorem IsAll.snoc {vs : List V} {ds : List PyData} {v : V} {d : PyData} (h : IsAll B H vs ds) (r : Is B H v d) : IsAll B H (vs ++ [v]) (ds ++ [d]) := h.append (.cons r .nil)
theorem IsKV.length : ∀ {vs : List (Key × V)} {ds : List (PyData × PyData)}, IsKV B H vs ds → vs.length = ds.length
  | _, _, .nil => rfl
  | _, _, .cons _ r => congrArg (· + 1) (IsKV.length r)
theorem IsNV.length : ∀ {vs : List (NestedKey × Addr × V)} {ds : List (PyData × PyData)}, IsNV B H vs ds → vs.length = ds.length
  | _, _, .nil => rfl
  | _, _, .cons _ _ r => congrArg (· + 1) (IsNV.length r)
end

/-! ### the top of a value in H, its parts in F -/
inductive Top (B : Bs) (F H : Hp) (a : Addr) : PyData → Prop
  | lst {xs : List V} {ds : List PyData} : SqL B.K H a xs → xs.length ≤ sizeLine → IsAll B F xs ds → Top B F H a (.list ds)
  | dK {kvs : List (Key × V)} {es : List (PyData × PyData)} : Rd H a (.dK kvs) → IsKV B F kvs es → Top B F H a (.dict es)
  | dN {ks : List (NestedKey × Addr × V)} {es : List (PyData × PyData)} : H a = some (dN B.P B.w a ks) → IsNV B F ks es → Top B F H a (.dict (mkN :: es))
/-- an object of one's own, that may be changed -/
inductive Own (B : Bs) (F H : Hp) (a : Addr) : PyData → Prop
  | lst {xs : List V} {ds : List PyData} : H a = some (.lst xs) → xs.length ≤ sizeLine → IsAll B F xs ds → Own B F H a (.list ds)
  | dK {kvs : List (Key × V)} {es : List (PyData × PyData)} : H a = some (.dK kvs) → IsKV B F kvs es → Own B F H a (.dict es)
  | dN {ks : List (NestedKey × Addr × V)} {es : List (PyData × PyData)} : H a = some (dN B.P B.w a ks) → IsNV B F ks es → Own B F H a (.dict (mkN :: es))
section
variable {B : Bs} {F F' H H' : Hp} {a : Addr} {d : PyData} {v : V}
theorem Own.top (o : Own B F H a d) : Top B F H a d := by
  cases o with
  | lst h z r => exact .lst (.of h) z r
  | dK h r => exact .dK (.of h) r
  | dN h r => exact .dN h r
theorem Top.mono (f : Same F F') (s : Same H H') (o : Top B F H a d) : Top B F' H' a d := by
  cases o with
  | lst h z r => exact .lst (same_sqL s h) z (r.mono f)
  | dK h r => exact .dK (same_rd s h) (r.mono f)
  | dN h r => exact .dN (s _ _ h) (r.mono f)
theorem Own.mono (f : Same F F') (s : Same H H') (o : Own B F H a d) : Own B F' H' a d := by
  cases o with
  | lst h z r => exact .lst (s _ _ h) z (r.mono f)
  | dK h r => exact .dK (s _ _ h) (r.mono f)
  | dN h r => exact .dN (s _ _ h) (r.mono f)
theorem Own.at (f : Same F F') (s : ∀ o, H a = some o → H' a = some o) (o : Own B F H a d) : Own B F' H' a d := by
  cases o with
  | lst h z r => exact .lst (s _ h) z (r.mono f)
  | dK h r => exact .dK (s _ h) (r.mono f)
  | dN h r => exact .dN (s _ h) (r.mono f)
theorem Own.some (o : Own B F H a d) : ∃ u, H a = Option.some u := by
  cases o with
  | lst h _ r => exact ⟨_, h⟩
  | dK h r => exact ⟨_, h⟩
  | dN h r => exact ⟨_, h⟩
/-- what is one's own becomes frozen -/
theorem Own.frz (o : Own B F H a d) (hf : F a = none) (sub : Same F H) : ∃ u, H a = Option.some u ∧ Is B (upd F a u) (.ref a) d ∧ Same F (upd F a u) ∧ Same (upd F a u) H := by
  obtain ⟨u, hu⟩ := o.some
  have s1 : Same F (upd F a u) := same_updNew hf
  refine ⟨u, hu, ?_, s1, fun b x e => ?_⟩
  · cases o with
    | lst h z r =>
      rw [hu] at h; cases h
      exact .lst upd_same z (r.mono s1)
    | dK h r =>
      rw [hu] at h; cases h
      exact .dK (.of upd_same) (r.mono s1)
    | dN h r =>
      rw [hu] at h
      have e := Option.some.inj h
      subst e
      exact .dN upd_same (r.mono s1)
  · by_cases hb : b = a
    · subst hb; rw [upd_same] at e; rw [← e]; exact hu
    · rw [upd_ne hb] at e; exact sub _ _ e
/-- to be read now -/
def Bor (B : Bs) (F H : Hp) (v : V) (d : PyData) : Prop := Is B F v d ∨ ∃ a, v = .ref a ∧ Top B F H a d
theorem Bor.mono (f : Same F F') (s : Same H H') (o : Bor B F H v d) : Bor B F' H' v d := by
  rcases o with o | ⟨a, e, o⟩
  · exact .inl (o.mono f)
  · exact .inr ⟨a, e, o.mono f s⟩
theorem Bor.list {ds : List PyData} (o : Bor B F H v (.list ds)) (sub : Same F H) : ∃ a xs, v = .ref a ∧ SqL B.K H a xs ∧ xs.length ≤ sizeLine ∧ IsAll B F xs ds := by
  rcases o with o | ⟨a, rfl, o⟩
  · cases o with
    | lst h z r => exact ⟨_, _, rfl, .of (sub _ _ h), z, r⟩
  · cases o with
    | lst h z r => exact ⟨_, _, rfl, h, z, r⟩
theorem Bor.tup {ds : List PyData} (o : Bor B F H v (.tuple ds)) (sub : Same F H) : ∃ a xs, v = .ref a ∧ SqT B.K H a xs ∧ xs.length ≤ sizeLine ∧ IsAll B F xs ds ∧ Is B F v (.tuple ds) := by
  rcases o with o | ⟨a, rfl, o⟩
  · cases o with
    | tup h z r => exact ⟨_, _, rfl, same_sqT sub h, z, r, .tup h z r⟩
  · cases o
theorem Bor.str {x : Str} (o : Bor B F H v (.str x)) : v = .str x := by
  rcases o with o | ⟨a, rfl, o⟩
  · cases o; rfl
  · cases o
theorem Bor.int {x : Int} (o : Bor B F H v (.int x)) : v = .int x := by
  rcases o with o | ⟨a, rfl, o⟩
  · cases o; rfl
  · cases o
theorem Bor.bl {x : Bool} (o : Bor B F H v (.bool x)) : v = .bl x := by
  rcases o with o | ⟨a, rfl, o⟩
  · cases o; rfl
  · cases o
theorem Bor.non (o : Bor B F H v .none) : v = .non := by
  rcases o with o | ⟨a, rfl, o⟩
  · cases o; rfl
  · cases o
end

/-! ### the state of a def that runs -/
structure Cb extends Bs where
  F0 : Hp
  H0 : Hp
  E : XK
  pin : List (Nat × Addr)
/-- how an exception is seen: its class's address, its own dict -/
def ExIs (B : Bs) (x : Xn) (cls : Value) (dd : Option Addr) (F H : Hp) (nm : Str → Option Addr) : Prop := ∃ C, nm x.C = some C ∧ cls = .ref C ∧
  (x.arg = .none ∨ ∃ d f v, dd = some d ∧ H d = some (.xd [(f, v)]) ∧ Is B F v x.arg)
def Sok (C : Cb) (F H : Hp) (o : Option (Option V)) : Sl → Prop
  | .un => True
  | .fr d => ∃ v, o = some (some v) ∧ Is C.toBs F v d
  | .ow d => ∃ a, o = some (some (.ref a)) ∧ C.H0 a = none ∧ F a = none ∧ Own C.toBs F H a d
  | .bo d => ∃ v, o = some (some v) ∧ Bor C.toBs F C.H0 v d
structure Rep (C : Cb) (ρ : Env) (σ : L2.St) (F H : Hp) : Prop where
  ext : Ext C.F0 C.H0 F H
  len : ρ.length = σ.length
  slot : ∀ (i : Nat) (s : Sl), ρ[i]? = some s → Sok C F H σ[i]? s
  apart : ∀ (i j : Nat) (a : Addr) (di dj : PyData), ρ[i]? = some (.ow di) → ρ[j]? = some (.ow dj) → σ[i]? = some (some (.ref a)) → σ[j]? = some (some (.ref a)) → i = j
  pin : ∀ p ∈ C.pin, σ[p.1]? = some (some (.ref p.2))
section
variable {C : Cb} {ρ : Env} {σ : L2.St} {F H F' H' : Hp}
theorem Rep.sub (R : Rep C ρ σ F H) : Same F H := R.ext.sub
theorem Rep.on (r : Rep C ρ σ F H) (e : Ext F H F' H') : Rep C ρ σ F' H' :=
  ⟨r.ext.trans e, r.len, fun i s hs => by
    have q := r.slot i s hs
    cases s with
    | un => trivial
    | fr d => obtain ⟨v, h1, h2⟩ := q; exact ⟨v, h1, h2.mono e.fr⟩
    | ow d =>
      obtain ⟨a, h1, h2, h3, h4⟩ := q
      obtain ⟨u, hu⟩ := h4.some
      exact ⟨a, h1, h2, e.none h3 hu, h4.mono e.fr e.all⟩
    | bo d => obtain ⟨v, h1, h2⟩ := q; exact ⟨v, h1, h2.mono e.fr (Same.refl _)⟩, r.apart, r.pin⟩
theorem set_get {α : Type} {l : List α} {i j : Nat} {x y : α} (h : (l.set i x)[j]? = some y) : (j = i ∧ y = x ∧ i < l.length) ∨ (j ≠ i ∧ l[j]? = some y) := by
  by_cases hj : j = i
  · subst hj
    by_cases hl : j < l.length
    · rw [List.getElem?_set_self hl] at h
      exact .inl ⟨rfl, (Option.some.inj h).symm, hl⟩
    · rw [List.getElem?_eq_none (by simpa using hl)] at h; cases h
  · rw [List.getElem?_set_ne (Ne.symm hj)] at h
    exact .inr ⟨hj, h⟩
/-- a slot is given a new content -/
theorem Rep.set (r : Rep C ρ σ F H) {i : Nat} {v : V} {s : Sl} (hp : ∀ p ∈ C.pin, p.1 ≠ i) (h : Sok C F H (some (some v)) s)
    (hn : ∀ d, s = .ow d → ∀ a, v = .ref a → ∀ (j : Nat) (dj : PyData), j ≠ i → ρ[j]? = some (.ow dj) → σ[j]? ≠ some (some (.ref a))) : Rep C (ρ.set i s) (σ.set i (some v)) F H := by
  refine ⟨r.ext, by rw [List.length_set, List.length_set]; exact r.len, fun j t ht => ?_, fun j k a dj dk hj hk sj sk => ?_, fun p hp' => ?_⟩
  · rcases set_get ht with ⟨rfl, rfl, hl⟩ | ⟨hne, ht⟩
    · rw [List.getElem?_set_self (by rw [← r.len]; exact hl)]
      exact h
    · rw [List.getElem?_set_ne (Ne.symm hne)]
      exact r.slot j t ht
  · rcases set_get hj with ⟨rfl, e1, hl⟩ | ⟨hne, hj1⟩
    · rcases set_get hk with ⟨rfl, e2, _⟩ | ⟨hne2, hk1⟩
      · rfl
      · rw [List.getElem?_set_self (by rw [← r.len]; exact hl)] at sj
        rw [List.getElem?_set_ne (Ne.symm hne2)] at sk
        exact absurd sk (hn _ e1.symm a (Option.some.inj (Option.some.inj sj)) k dk hne2 hk1)
    · rw [List.getElem?_set_ne (Ne.symm hne)] at sj
      rcases set_get hk with ⟨rfl, e2, hl⟩ | ⟨hne2, hk1⟩
      · rw [List.getElem?_set_self (by rw [← r.len]; exact hl)] at sk
        exact absurd sj (hn _ e2.symm a (Option.some.inj (Option.some.inj sk)) j dj hne hj1)
      · rw [List.getElem?_set_ne (Ne.symm hne2)] at sk
        exact r.apart j k a dj dk hj1 hk1 sj sk
  · rw [List.getElem?_set_ne (Ne.symm (hp p hp'))]
    exact r.pin p hp'
/-- less is known of a slot -/
theorem Rep.weak (r : Rep C ρ σ F H) {i : Nat} {s : Sl} (h : ∀ t, ρ[i]? = some t → Sok C F H σ[i]? s) (hs : ∀ d, s = .ow d → ρ[i]? = some (.ow d)) : Rep C (ρ.set i s) σ F H := by
  refine ⟨r.ext, by rw [List.length_set]; exact r.len, fun j t ht => ?_, fun j k a dj dk hj hk sj sk => ?_, r.pin⟩
  · rcases set_get ht with ⟨rfl, rfl, hl⟩ | ⟨hne, ht⟩
    · exact h _ (List.getElem?_eq_getElem hl)
    · exact r.slot j t ht
  · have key : ∀ {j : Nat} {dj : PyData}, (ρ.set i s)[j]? = some (.ow dj) → ρ[j]? = some (.ow dj) := fun {j dj} hj => by
      rcases set_get hj with ⟨rfl, e, _⟩ | ⟨_, hj⟩
      · exact hs _ e.symm
      · exact hj
    exact r.apart j k a dj dk (key hj) (key hk) sj sk
end
end Pv

/-! Pv, part 2: what an expression gives; names, constants, operators, comparisons, tests. -/
namespace Pv
open PySem PySem.Spec PyProof.Rows L2

structure Cc extends Cb where
  nm : Str → Option Addr
  /-- what is handed back is one's own -/
  ro : Bool
def Cc.wx (C : Cc) (x : Xn) : Prop := ∀ F H cls dd, Ext C.F0 C.H0 F H → ExIs C.toBs x cls dd F H C.nm → C.E cls dd H
/-- the text, the world, the written part are the context's -/
structure On (C : Cc) (X : Cx) : Prop where
  P : C.P = X.prog
  w : C.w = X.w
  K : C.K = X.K

/-! ### readings -/
/-- frozen | to be read | to be read through the whole def | new, one's own -/
inductive Md where
  | f | b | s | o
def Hd (C : Cc) : Md → Hp → Hp → Hp → V → PyData → Prop
  | .f, _, F', _, v, d => Is C.toBs F' v d
  | .b, _, F', H', v, d => Bor C.toBs F' H' v d
  | .s, _, F', _, v, d => Bor C.toBs F' C.H0 v d
  | .o, H, F', H', v, d => ∃ a, v = .ref a ∧ H a = none ∧ F' a = none ∧ Own C.toBs F' H' a d
def tM (C : Cc) (M : Md) (m : Env → R PyData) : TE := fun σ H Q => ∃ ρ F, Rep C.toCb ρ σ F H ∧ OkR (m ρ) (fun d => ∀ v F' H', Ext F H F' H' → Hd C M H F' H' v d → Q v H') C.wx
def tT (C : Cc) (m : Env → R Bool) : TT := fun σ H Q => ∃ ρ F, Rep C.toCb ρ σ F H ∧ OkR (m ρ) (fun b => ∀ F' H', Ext F H F' H' → Q b H') C.wx
/-- the wanted continuation of a value -/
abbrev Wd (C : Cc) (M : Md) (F H : Hp) (Q : VK) (d : PyData) : Prop := ∀ v F' H', Ext F H F' H' → Hd C M H F' H' v d → Q v H'

theorem _root_.L2.PE.imp {X : Cx} {e : Expr} {t t' : TE} (h : PE X e t) (w : ∀ σ H Q, t' σ H Q → t σ H Q) : PE X e t' := ⟨fun pins s σ H Q I q => h.run pins s σ H Q I (w σ H Q q)⟩
theorem _root_.L2.PT.imp {X : Cx} {e : Expr} {t t' : TT} (h : PT X e t) (w : ∀ σ H Q, t' σ H Q → t σ H Q) : PT X e t' := ⟨fun pins s σ H Q I q => h.run pins s σ H Q I (w σ H Q q)⟩
theorem _root_.L2.PW.imp {X : Cx} {e : Expr} {t t' : TT} (h : PW X e t) (w : ∀ σ H Q, t' σ H Q → t σ H Q) : PW X e t' := ⟨fun wh pins s σ H Q I q => h.run wh pins s σ H Q I (w σ H Q q)⟩
theorem _root_.L2.PA.imp {X : Cx} {e : List Expr} {t t' : TA} (h : PA X e t) (w : ∀ σ H Q, t' σ H Q → t σ H Q) : PA X e t' := ⟨fun pos pins s σ H Q I q => h.run pos pins s σ H Q I (w σ H Q q)⟩
theorem _root_.L2.PS.imp {X : Cx} {e : Stmt} {t t' : TS} (h : PS X e t) (w : ∀ D σ H, t' D σ H → t D σ H) : PS X e t' := ⟨fun pins s σ H D I q => h.run pins s σ H D I (w D σ H q)⟩
theorem _root_.L2.PSs.imp {X : Cx} {e : List Stmt} {t t' : TS} (h : PSs X e t) (w : ∀ D σ H, t' D σ H → t D σ H) : PSs X e t' := ⟨fun pins s σ H D I q => h.run pins s σ H D I (w D σ H q)⟩

section
variable {C : Cc} {X : Cx} {ρ : Env} {σ : L2.St} {F H F' H' : Hp} {v : V} {d : PyData} {M : Md}
/-- what is known of it later -/
theorem Hd.bor (h : Hd C M H F' H' v d) (e : Ext C.F0 C.H0 F' H') : Bor C.toBs F' H' v d := by
  cases M with
  | f => exact .inl h
  | b => exact h
  | s => exact Bor.mono (Same.refl _) e.all h
  | o =>
    obtain ⟨a, rfl, _, _, o⟩ := h
    exact .inr ⟨a, rfl, o.top⟩
theorem Hd.back {H0 : Hp} (h : Hd C M H F' H' v d) (s : Same H0 H) : Hd C M H0 F' H' v d := by
  cases M with
  | f => exact h
  | b => exact h
  | s => exact h
  | o =>
    obtain ⟨a, e, n, r⟩ := h
    exact ⟨a, e, s.free n, r⟩
theorem Wd.on {Q : VK} (w : Wd C M F H Q d) (e : Ext F H F' H') : Wd C M F' H' Q d := fun v F2 H2 e2 h => w v F2 H2 (e.trans e2) (h.back e.all)
theorem b_of {e : Expr} {m : Env → R PyData} (h : PE X e (tM C M m)) : PE X e (tM C .b m) := h.imp fun σ H Q ⟨ρ, F, r, q⟩ =>
  ⟨ρ, F, r, okR_mono q fun d _ w v F' H' e1 hd => w v F' H' e1 (hd.bor (r.ext.trans e1))⟩
theorem s_of {e : Expr} {m : Env → R PyData} (h : PE X e (tM C .f m)) : PE X e (tM C .s m) := h.imp fun σ H Q ⟨ρ, F, r, q⟩ =>
  ⟨ρ, F, r, okR_mono q fun d _ w v F' H' e1 hd => w v F' H' e1 (.inl hd)⟩
/-- a new object is frozen at once -/
theorem f_of {e : Expr} {m : Env → R PyData} (h : PE X e (tM C .o m)) : PE X e (tM C .f m) := h.imp fun σ H Q ⟨ρ, F, r, q⟩ =>
  ⟨ρ, F, r, okR_mono q fun d _ w v F' H' e1 hd => by
    obtain ⟨a, rfl, n1, n2, o⟩ := hd
    obtain ⟨u, hu, i, s1, s2⟩ := o.frz n2 e1.sub
    refine w (.ref a) (upd F' a u) H' ⟨e1.fr.trans s1, e1.all, s2, fun b x eb => ?_⟩ i
    by_cases hb : b = a
    · subst hb; exact .inr n1
    · rw [upd_ne hb] at eb; exact e1.new b x eb⟩

/-! ### names, constants -/
def mVar (i : Nat) (ρ : Env) : R PyData := match ρ[i]? with
  | some (.fr d) => .ok d
  | _ => .st
def mVarB (i : Nat) (ρ : Env) : R PyData := match ρ[i]? with
  | some (.fr d) => .ok d
  | some (.ow d) => .ok d
  | some (.bo d) => .ok d
  | _ => .st
def mVarS (i : Nat) (ρ : Env) : R PyData := match ρ[i]? with
  | some (.fr d) => .ok d
  | some (.bo d) => .ok d
  | _ => .st
def mC (d : PyData) (_ρ : Env) : R PyData := .ok d
section
variable {x : Str} {pos : Pos}
theorem ev (i : Nat) (hN : X.N[i]? = some x := by rfl) (hv : Vis X.env.scope x := by first | exact Or.inl rfl | exact Or.inr (Or.inl rfl) | exact Or.inr (Or.inr rfl)) (hd : (x == ("__debug__" : Str)) = false := by decide)
    (hcd : (x == ("__classdict__" : Str)) = false := by decide) : PE X (.Name x pos) (tM C .f (mVar i)) := (pv i hN hv hd hcd).imp fun σ H Q ⟨ρ, F, r, q⟩ => by
  unfold mVar at q
  split at q
  · rename_i d e
    obtain ⟨v, h1, h2⟩ := r.slot i _ e
    exact ⟨v, h1, q v F H (Ext.refl r.sub) h2⟩
  · exact q.elim
theorem evB (i : Nat) (hN : X.N[i]? = some x := by rfl) (hv : Vis X.env.scope x := by first | exact Or.inl rfl | exact Or.inr (Or.inl rfl) | exact Or.inr (Or.inr rfl)) (hd : (x == ("__debug__" : Str)) = false := by decide)
    (hcd : (x == ("__classdict__" : Str)) = false := by decide) : PE X (.Name x pos) (tM C .b (mVarB i)) := (pv i hN hv hd hcd).imp fun σ H Q ⟨ρ, F, r, q⟩ => by
  unfold mVarB at q
  split at q
  · rename_i d e
    obtain ⟨v, h1, h2⟩ := r.slot i _ e
    exact ⟨v, h1, q v F H (Ext.refl r.sub) (.inl h2)⟩
  · rename_i d e
    obtain ⟨a, h1, _, _, h2⟩ := r.slot i _ e
    exact ⟨_, h1, q _ F H (Ext.refl r.sub) (.inr ⟨a, rfl, h2.top⟩)⟩
  · rename_i d e
    obtain ⟨v, h1, h2⟩ := r.slot i _ e
    exact ⟨v, h1, q v F H (Ext.refl r.sub) (Bor.mono (Same.refl _) r.ext.all h2)⟩
  · exact q.elim
theorem evS (i : Nat) (hN : X.N[i]? = some x := by rfl) (hv : Vis X.env.scope x := by first | exact Or.inl rfl | exact Or.inr (Or.inl rfl) | exact Or.inr (Or.inr rfl)) (hd : (x == ("__debug__" : Str)) = false := by decide)
    (hcd : (x == ("__classdict__" : Str)) = false := by decide) : PE X (.Name x pos) (tM C .s (mVarS i)) := (pv i hN hv hd hcd).imp fun σ H Q ⟨ρ, F, r, q⟩ => by
  unfold mVarS at q
  split at q
  · rename_i d e
    obtain ⟨v, h1, h2⟩ := r.slot i _ e
    exact ⟨v, h1, q v F H (Ext.refl r.sub) (.inl h2)⟩
  · rename_i d e
    obtain ⟨v, h1, h2⟩ := r.slot i _ e
    exact ⟨v, h1, q v F H (Ext.refl r.sub) h2⟩
  · exact q.elim
theorem _root_.L2.PE.const {e : Expr} {v : V} {d : PyData} (h : PE X e (tC v)) (hv : ∀ F, Is C.toBs F v d) : PE X e (tM C .f (mC d)) := h.imp fun σ H Q ⟨ρ, F, r, q⟩ => q v F H (Ext.refl r.sub) (hv F)
theorem ei {i : Int} {j} : PE X (.Constant (.int i) j pos) (tM C .f (mC (.int i))) := PE.const pe_int fun _ => .int _
theorem ebl {b : Bool} {j} : PE X (.Constant (.bool b) j pos) (tM C .f (mC (.bool b))) := PE.const pe_bl fun _ => .bl _
theorem enon {j} : PE X (.Constant .none j pos) (tM C .f (mC .none)) := PE.const pe_non fun _ => .non
theorem estr {x : Str} {j} : PE X (.Constant (.str x) j pos) (tM C .f (mC (.str x))) := PE.const pe_str fun _ => .str _
/-- a text of the module -/
theorem egs {x y : Str} {t : Tok} (hm : X.mg x = some (.str y t)) (hg : Gl X x := by rfl) (hd : (x == ("__debug__" : Str)) = false := by decide) : PE X (.Name x pos) (tM C .f (mC (.str y))) :=
  PE.const (pe_glob (v := .str y) hg hm ⟨t, rfl⟩ hd) fun _ => .str _
/-- a thing that the top has written -/
theorem egk {x : Str} {d : PyData} (h : ∃ a, X.mg x = some (.ref a) ∧ ∀ (B : Bs) (F : Hp), B.K = X.K → Is B F (.ref a) d) (hB : On C X) (hg : Gl X x := by rfl) (hd : (x == ("__debug__" : Str)) = false := by decide) : PE X (.Name x pos) (tM C .f (mC d)) := by
  obtain ⟨a, hm, r⟩ := h
  exact PE.const (pe_glob (v := .ref a) hg hm rfl hd) fun F => r _ F hB.K
/-- a thing of the module -/
theorem egc {x : Str} {v : V} {d : PyData} (h : ∃ u, X.mg x = some u ∧ RelV v u) (hv : ∀ F, Is C.toBs F v d) (hg : Gl X x := by rfl) (hd : (x == ("__debug__" : Str)) = false := by decide) : PE X (.Name x pos) (tM C .f (mC d)) := by
  obtain ⟨u, hm, r⟩ := h
  exact PE.const (pe_glob hg hm r hd) hv
end

/-! ### two-place operations -/
def m2 (g : PyData → PyData → R PyData) (ma mb : Env → R PyData) (ρ : Env) : R PyData := (ma ρ).bind fun d => (mb ρ).bind fun e => g d e
def m1 (g : PyData → R PyData) (ma : Env → R PyData) (ρ : Env) : R PyData := (ma ρ).bind g
/-- what an operation on values does is told by g -/
def Sem2 (C : Cc) (M : Md) (r : R2) (g : PyData → PyData → R PyData) : Prop :=
  ∀ (F H : Hp) (x y : V) (d e : PyData) (Q : VK), Ext C.F0 C.H0 F H → Bor C.toBs F H x d → Bor C.toBs F H y e → OkR (g d e) (Wd C M F H Q) C.wx → r x y H Q
theorem tOp_of {M : Md} {r : R2} {g : PyData → PyData → R PyData} {ma mb : Env → R PyData} (h : Sem2 C M r g) {Q : VK} (q : tM C M (m2 g ma mb) σ H Q) : tOp r (tM C .b ma) (tM C .b mb) σ H Q := by
  obtain ⟨ρ, F, rp, q⟩ := q
  unfold m2 at q
  rw [okR_bind] at q
  refine ⟨ρ, F, rp, okR_mono q fun d _ q v F1 H1 e1 h1 => ?_⟩
  rw [okR_bind] at q
  have rp1 := rp.on e1
  refine ⟨ρ, F1, rp1, okR_mono q fun e _ q u F2 H2 e2 h2 => ?_⟩
  have e12 := e1.trans e2
  exact h F2 H2 v u d e Q (rp.ext.trans e12) (Bor.mono e2.fr e2.all h1) h2 (okR_mono q fun k _ w => Wd.on w e12)
section
variable {a b : Expr} {pos : Pos} {r : R2} {g : PyData → PyData → R PyData} {ma mb : Env → R PyData}
theorem e_op {op : Operator} (ho : OpR X (binaryOp op) r) (h : Sem2 C M r g) (ha : PE X a (tM C .b ma)) (hb : PE X b (tM C .b mb)) : PE X (.BinOp a op b pos) (tM C M (m2 g ma mb)) :=
  (pe_op ho ha hb).imp fun _ _ _ q => tOp_of h q
theorem e_cmp {op : CmpOp} (ho : OpR X (compareOp op) r) (h : Sem2 C .f r g) (ha : PE X a (tM C .b ma)) (hb : PE X b (tM C .b mb)) (hm : behindInMarks op b = false) : PE X (.Compare a [op] [b] pos) (tM C .f (m2 g ma mb)) :=
  (pe_cmpR ho ha hb hm).imp fun _ _ _ q => tOp_of h q
end
def rOr (r r' : R2) : R2 := fun x y H Q => r x y H Q ∨ r' x y H Q
theorem opR_or {f : Value → Value → Sem Value} {r r' : R2} (h : OpR X f r) (h' : OpR X f r') : OpR X f (rOr r r') := by
  intro pins s σ H x y v u Q I rx ry q
  rcases q with q | q
  · exact h pins s σ H x y v u Q I rx ry q
  · exact h' pins s σ H x y v u Q I rx ry q
theorem Sem2.inl {r r' : R2} {g : PyData → PyData → R PyData} (h : Sem2 C M r g) : Sem2 C M (rOr r r') g := fun F H x y d e Q e0 h1 h2 q => .inl (h F H x y d e Q e0 h1 h2 q)

/-! #### == != -/
def boolD (g : PyData → PyData → R Bool) : PyData → PyData → R PyData := fun d e => (g d e).bind fun b => .ok (.bool b)
def gEq (d e : PyData) : R Bool := if (PyData.plain d && PyData.plain e && decide (min d.depth e.depth ≤ 60)) = true then .ok (PyData.eqv d e) else .st
def gNe (d e : PyData) : R Bool := (gEq d e).bind fun b => .ok (!b)
mutual
theorem dpP {B : Bs} {H : Hp} : ∀ {v : V} {d : PyData}, Is B H v d → PyData.plain d = true → Dp B.K H v d
  | _, _, .non, _ => .non
  | _, _, .bl b, _ => .bl b
  | _, _, .int i, _ => .int i
  | _, _, .str x, _ => .str x
  | _, _, .lst h _ a, n => .lst (.of h) (dpAllP a (by rw [PyData.plain] at n; exact n))
  | _, _, .tup h _ a, n => .tup h (dpAllP a (by rw [PyData.plain] at n; exact n))
  | _, _, .dK h a, n => by rw [PyData.plain] at n; cases n
  | _, _, .dN h a, n => by rw [PyData.plain] at n; cases n
theorem dpAllP {B : Bs} {H : Hp} : ∀ {vs : List V} {ds : List PyData}, IsAll B H vs ds → PyData.plainAll ds = true → DpAll B.K H vs ds
  | _, _, .nil, _ => .nil
  | _, _, .cons h r, n => by
    rw [PyData.plainAll, Bool.and_eq_true] at n
    exact .cons (dpP h n.1) (dpAllP r n.2)
end
theorem _root_.Pv.Bor.dp {B : Bs} (o : Bor B F H v d) (sub : Same F H) (n : PyData.plain d = true) : Dp B.K H v d := by
  rcases o with o | ⟨a, rfl, o⟩
  · exact dpP (o.mono sub) n
  · cases o with
    | lst h z r => exact .lst h (dpAllP (r.mono sub) (by rw [PyData.plain] at n; exact n))
    | dK h r => rw [PyData.plain] at n; cases n
    | dN h r => rw [PyData.plain] at n; cases n
def rEqP (K : PySem.W.Frag) (neg : Bool) : R2 := fun x y H Q => ∃ d e, Dp K H x d ∧ Dp K H y e ∧ PyData.plain d = true ∧ PyData.plain e = true ∧ min d.depth e.depth ≤ 60 ∧ Q (.bl (if neg then !PyData.eqv d e else PyData.eqv d e)) H
theorem op_eqP (hu : X.A.units + 64 < cLine) : OpR X (compareOp .Eq) (rEqP X.K false) := by
  intro pins s σ H x y v u Q I rx ry h
  obtain ⟨d, e, hd, he, sd, se, dep, q⟩ := h
  obtain ⟨as, r1⟩ := Dp.reads I d x v hd rx
  obtain ⟨bs, r2⟩ := Dp.reads I e y u he ry
  exact SeqAt.eq_plain r1 r2 sd se (by omega) ⟨.bl _, H, I, rfl, q⟩
theorem op_neP (hu : X.A.units + 64 < cLine) : OpR X (compareOp .NotEq) (rEqP X.K true) := by
  intro pins s σ H x y v u Q I rx ry h
  obtain ⟨d, e, hd, he, sd, se, dep, q⟩ := h
  obtain ⟨as, r1⟩ := Dp.reads I d x v hd rx
  obtain ⟨bs, r2⟩ := Dp.reads I e y u he ry
  exact SeqAt.ne_plain r1 r2 sd se (by omega) ⟨.bl _, H, I, rfl, q⟩
theorem wd_bl {Q : VK} {b : Bool} (s : Same F H) (w : Wd C .f F H Q (.bool b)) : Q (.bl b) H := w (.bl b) F H (Ext.refl s) (.bl b)
theorem wd_int {Q : VK} {i : Int} (s : Same F H) (w : Wd C .f F H Q (.int i)) : Q (.int i) H := w (.int i) F H (Ext.refl s) (.int i)
theorem wd_str {Q : VK} {i : Str} (s : Same F H) (w : Wd C .f F H Q (.str i)) : Q (.str i) H := w (.str i) F H (Ext.refl s) (.str i)
theorem sem_eq : Sem2 C .f (rEqP C.K false) (boolD gEq) := by
  intro F H x y d e Q e0 h1 h2 q
  unfold boolD gEq at q
  split at q
  · rename_i c
    rw [Bool.and_eq_true, Bool.and_eq_true, decide_eq_true_eq] at c
    exact ⟨d, e, h1.dp e0.sub c.1.1, h2.dp e0.sub c.1.2, c.1.1, c.1.2, c.2, wd_bl e0.sub q⟩
  · exact q.elim
theorem sem_ne : Sem2 C .f (rEqP C.K true) (boolD gNe) := by
  intro F H x y d e Q e0 h1 h2 q
  unfold boolD gNe gEq at q
  split at q
  · rename_i c
    rw [Bool.and_eq_true, Bool.and_eq_true, decide_eq_true_eq] at c
    exact ⟨d, e, h1.dp e0.sub c.1.1, h2.dp e0.sub c.1.2, c.1.1, c.1.2, c.2, wd_bl e0.sub q⟩
  · exact q.elim

/-! #### < <= > >= -/
def isNon : PyData → Bool
  | .none => true
  | _ => false
def gLt (d e : PyData) : R Bool := match d, e with
  | .int i, .int j => .ok (decide (i < j))
  | d, e => if (PyData.plain d && PyData.plain e && PySem.W.alike d e && decide (min d.depth e.depth ≤ 60) && !isNon d) = true then .ok (PySem.W.dataLt d e) else .st
def gGe (d e : PyData) : R Bool := match d, e with
  | .int i, .int j => .ok (decide (j ≤ i))
  | d, e => if (PyData.plain d && PyData.plain e && PySem.W.alike d e && decide (min d.depth e.depth ≤ 60) && !isNon d) = true then .ok (!PySem.W.dataLt d e) else .st
def gLe (d e : PyData) : R Bool := match d, e with
  | .int i, .int j => .ok (decide (i ≤ j))
  | _, _ => .st
def gGt (d e : PyData) : R Bool := match d, e with
  | .int i, .int j => .ok (decide (j < i))
  | _, _ => .st
def rLtD (K : PySem.W.Frag) (neg : Bool) : R2 := fun x y H Q => ∃ d e, Dp K H x d ∧ Dp K H y e ∧ PySem.W.alike d e = true ∧ d ≠ .none ∧ min d.depth e.depth ≤ 60 ∧ Q (.bl (if neg then !PySem.W.dataLt d e else PySem.W.dataLt d e)) H
theorem op_ltD (hu : X.A.units + 64 < cLine) : OpR X (compareOp .Lt) (rLtD X.K false) := by
  intro pins s σ H x y v u Q I rx ry h
  obtain ⟨d, e, hd, he, al, nn, dep, q⟩ := h
  obtain ⟨as, r1⟩ := Dp.reads I d x v hd rx
  obtain ⟨bs, r2⟩ := Dp.reads I e y u he ry
  exact PySem.W.lt_data r1 r2 al nn (by omega) ⟨.bl _, H, I, rfl, q⟩
theorem op_geD (hu : X.A.units + 64 < cLine) : OpR X (compareOp .GtE) (rLtD X.K true) := by
  intro pins s σ H x y v u Q I rx ry h
  obtain ⟨d, e, hd, he, al, nn, dep, q⟩ := h
  obtain ⟨as, r1⟩ := Dp.reads I d x v hd rx
  obtain ⟨bs, r2⟩ := Dp.reads I e y u he ry
  exact PySem.W.ge_data r1 r2 al nn (by omega) ⟨.bl _, H, I, rfl, q⟩
theorem sem_lt : Sem2 C .f (rOr (rI0 fun i j => .bl (decide (i < j))) (rLtD C.K false)) (boolD gLt) := by
  intro F H x y d e Q e0 h1 h2 q
  unfold boolD gLt at q
  split at q
  · cases h1.int
    cases h2.int
    exact .inl ⟨_, _, rfl, rfl, wd_bl e0.sub q⟩
  · split at q
    · rename_i c
      rw [Bool.and_eq_true, Bool.and_eq_true, Bool.and_eq_true, Bool.and_eq_true, decide_eq_true_eq] at c
      refine .inr ⟨d, e, h1.dp e0.sub c.1.1.1.1, h2.dp e0.sub c.1.1.1.2, c.1.1.2, fun z => ?_, c.1.2, wd_bl e0.sub q⟩
      subst z
      exact absurd c.2 Bool.false_ne_true
    · exact q.elim
theorem sem_ge : Sem2 C .f (rOr (rI0 fun i j => .bl (decide (j ≤ i))) (rLtD C.K true)) (boolD gGe) := by
  intro F H x y d e Q e0 h1 h2 q
  unfold boolD gGe at q
  split at q
  · cases h1.int
    cases h2.int
    exact .inl ⟨_, _, rfl, rfl, wd_bl e0.sub q⟩
  · split at q
    · rename_i c
      rw [Bool.and_eq_true, Bool.and_eq_true, Bool.and_eq_true, Bool.and_eq_true, decide_eq_true_eq] at c
      refine .inr ⟨d, e, h1.dp e0.sub c.1.1.1.1, h2.dp e0.sub c.1.1.1.2, c.1.1.2, fun z => ?_, c.1.2, wd_bl e0.sub q⟩
      subst z
      exact absurd c.2 Bool.false_ne_true
    · exact q.elim
theorem sem_le : Sem2 C .f (rI0 fun i j => .bl (decide (i ≤ j))) (boolD gLe) := by
  intro F H x y d e Q e0 h1 h2 q
  unfold boolD gLe at q
  split at q
  · cases h1.int
    cases h2.int
    exact ⟨_, _, rfl, rfl, wd_bl e0.sub q⟩
  · exact q.elim
theorem sem_gt : Sem2 C .f (rI0 fun i j => .bl (decide (j < i))) (boolD gGt) := by
  intro F H x y d e Q e0 h1 h2 q
  unfold boolD gGt at q
  split at q
  · cases h1.int
    cases h2.int
    exact ⟨_, _, rfl, rfl, wd_bl e0.sub q⟩
  · exact q.elim

/-! #### arithmetic, + -/
theorem cat_listL {pins : List (Addr × Obj)} {s : Shared} {σ : L2.St} {H : Hp} {Q : VK} {l b : Addr} {xs zs : List V} (I : Inv X pins σ H s) (hH : SqL X.K H l xs) (hB : SqL X.K H b zs) (hz : xs.length + zs.length ≤ sizeLine)
    (q : ∀ p, H p = none → Q (.ref p) (upd H p (.lst (xs ++ zs)))) : wpAny (model X.prog X.w) X.A (binaryOp .Add (.ref l) (.ref b)) (EP X pins σ Q) X.xe s := by
  obtain ⟨its, r, ⟨⟨cls, dd, data, sl⟩, n, ho, hc, _, hd⟩, _⟩ := I.list hH
  obtain ⟨its2, r2, ⟨⟨cls2, dd2, data2, sl2⟩, n2, ho2, hc2, _, hd2⟩, _⟩ := I.list hB
  simp only at hc hd hc2 hd2
  subst hc hd hc2 hd2
  have h1 := r.length
  have h2 := r2.length
  have ea : its.toArray ++ its2.toArray = (its ++ its2).toArray := by simp
  refine concat_meets ⟨_, ho, rfl⟩ ⟨_, ho2, rfl⟩ noFill_list_add seq_list_add PySem.F.slot_list_add PySem.F.entry_list_add (PySem.F.args_list_add_2 _ _)
    (list_addW l b its.toArray its2.toArray n n2 dd dd2 sl sl2 (by rw [List.size_toArray, List.size_toArray]; omega)) ⟨ho, ho2, ?_⟩
  rw [ea]
  exact ⟨.ref _, _, I.lnew (t' := s.toks) (r.append r2) (by rw [List.length_append]; omega), rfl, q _ I.fresh⟩
def rCatL (K : PySem.W.Frag) : R2 := fun x y H Q => ∃ l b xs zs, x = .ref l ∧ y = .ref b ∧ SqL K H l xs ∧ SqL K H b zs ∧ xs.length + zs.length ≤ sizeLine ∧ ∀ p, H p = none → Q (.ref p) (upd H p (.lst (xs ++ zs)))
theorem op_catL : OpR X (binaryOp .Add) (rCatL X.K) := by
  intro pins s σ H x y v u Q I rx ry h
  obtain ⟨l, b, xs, zs, rfl, rfl, hH, hB, hz, q⟩ := h
  cases rx
  cases ry
  exact cat_listL I hH hB hz q
def gAdd (d e : PyData) : R PyData := match d, e with
  | .int i, .int j => .ok (.int (i + j))
  | .str x, .str y => if x.length + y.length ≤ sizeLine then .ok (.str (x ++ y)) else .st
  | .list xs, .list ys => if xs.length + ys.length ≤ sizeLine then .ok (.list (xs ++ ys)) else .st
  | .tuple xs, .tuple ys => if xs.length + ys.length ≤ sizeLine then .ok (.tuple (xs ++ ys)) else .st
  | _, _ => .st
abbrev rAddA (K : PySem.W.Frag) : R2 := rOr (rI0 fun i j => .int (i + j)) (rOr (fun x y H Q => ∃ i j, x = .str i ∧ y = .str j ∧ i.length + j.length ≤ sizeLine ∧ Q (.str (i ++ j)) H) (rOr (rCatL K) (rCatA K)))
theorem op_addA : OpR X (binaryOp .Add) (rAddA X.K) := opR_or op_add (opR_or op_add_str (opR_or op_catL op_catA))
theorem sem_add : Sem2 C .f (rAddA C.K) gAdd := by
  intro F H x y d e Q e0 h1 h2 q
  unfold gAdd at q
  split at q
  · cases h1.int
    cases h2.int
    exact .inl ⟨_, _, rfl, rfl, wd_int e0.sub q⟩
  · split at q
    · rename_i c
      cases h1.str
      cases h2.str
      exact .inr (.inl ⟨_, _, rfl, rfl, c, wd_str e0.sub q⟩)
    · exact q.elim
  · split at q
    · rename_i c
      obtain ⟨a, xs, rfl, l1, z1, i1⟩ := h1.list e0.sub
      obtain ⟨b, ys, rfl, l2, z2, i2⟩ := h2.list e0.sub
      refine .inr (.inr (.inl ⟨a, b, xs, ys, rfl, rfl, l1, l2, by rw [i1.length, i2.length]; exact c, fun p hp => ?_⟩))
      have e1 := Ext.frz e0.sub (o := .lst (xs ++ ys)) hp
      exact q (.ref p) _ _ e1 (.lst upd_same (by rw [List.length_append, i1.length, i2.length]; exact c) ((i1.append i2).mono e1.fr))
    · exact q.elim
  · split at q
    · rename_i c
      obtain ⟨a, xs, rfl, l1, y1, i1, j1⟩ := h1.tup e0.sub
      obtain ⟨b, ys, rfl, l2, y2, i2, j2⟩ := h2.tup e0.sub
      refine .inr (.inr (.inr ⟨a, b, xs, ys, rfl, rfl, l1, l2, by rw [i1.length, i2.length]; exact c, fun z => ?_, fun z1 z2 => ?_, fun z1 z2 p hp => ?_⟩))
      · subst z
        cases i1
        exact q (.ref b) F H (Ext.refl e0.sub) j2
      · subst z2
        cases i2
        rw [List.append_nil] at q
        exact q (.ref a) F H (Ext.refl e0.sub) j1
      · have e1 := Ext.frz e0.sub (o := .tup (xs ++ ys)) hp
        exact q (.ref p) _ _ e1 (.tup (.of upd_same) (by rw [List.length_append, i1.length, i2.length]; exact c) ((i1.append i2).mono e1.fr))
    · exact q.elim
  · exact q.elim
def gSub (d e : PyData) : R PyData := match d, e with
  | .int i, .int j => .ok (.int (i - j))
  | _, _ => .st
theorem sem_sub : Sem2 C .f (rI0 fun i j => .int (i - j)) gSub := by
  intro F H x y d e Q e0 h1 h2 q
  unfold gSub at q
  split at q
  · cases h1.int
    cases h2.int
    exact ⟨_, _, rfl, rfl, wd_int e0.sub q⟩
  · exact q.elim
def gMul (d e : PyData) : R PyData := match d, e with
  | .int i, .int j => if (-(2 ^ 64) < i ∧ i < 2 ^ 64) ∨ (-(2 ^ 64) < j ∧ j < 2 ^ 64) then .ok (.int (i * j)) else .st
  | _, _ => .st
theorem sem_mul : Sem2 C .f (rI CMul fun i j => .int (i * j)) gMul := by
  intro F H x y d e Q e0 h1 h2 q
  unfold gMul at q
  split at q
  · split at q
    · rename_i c
      cases h1.int
      cases h2.int
      exact ⟨_, _, rfl, rfl, c, wd_int e0.sub q⟩
    · exact q.elim
  · exact q.elim
def gMod (d e : PyData) : R PyData := match d, e with
  | .int i, .int j => if 0 < j then .ok (.int (i % j)) else .st
  | _, _ => .st
theorem sem_mod : Sem2 C .f (rI (fun _ j => 0 < j) fun i j => .int (i % j)) gMod := by
  intro F H x y d e Q e0 h1 h2 q
  unfold gMod at q
  split at q
  · split at q
    · rename_i c
      cases h1.int
      cases h2.int
      exact ⟨_, _, rfl, rfl, c, wd_int e0.sub q⟩
    · exact q.elim
  · exact q.elim
def gDiv (d e : PyData) : R PyData := match d, e with
  | .int i, .int j => if 0 < j ∧ j < 1073741824 then .ok (.int (i / j)) else .st
  | _, _ => .st
theorem sem_div : Sem2 C .f (rI CDiv fun i j => .int (i / j)) gDiv := by
  intro F H x y d e Q e0 h1 h2 q
  unfold gDiv at q
  split at q
  · split at q
    · rename_i c
      cases h1.int
      cases h2.int
      exact ⟨_, _, rfl, rfl, c, wd_int e0.sub q⟩
    · exact q.elim
  · exact q.elim
end
end Pv

/-! Pv, part 3: tests, is, in, places, slices, displays, calls of built-ins. -/
namespace Pv
open PySem PySem.Spec PyProof.Rows L2
section
variable {C : Cc} {X : Cx} {ρ : Env} {σ : L2.St} {F H F' H' : Hp} {v : V} {d : PyData} {M : Md} {a b c : Expr} {pos : Pos} {ma mb mc : Env → R PyData} {ta tb : Env → R Bool}

/-! ### tests -/
def mT2 (g : PyData → PyData → R Bool) (ma mb : Env → R PyData) (ρ : Env) : R Bool := (ma ρ).bind fun d => (mb ρ).bind fun e => g d e
theorem boolD_ok {g : PyData → PyData → R Bool} {d e : PyData} {k : PyData → Prop} {w : Xn → Prop} : OkR (boolD g d e) k w ↔ OkR (g d e) (fun b => k (.bool b)) w := by
  unfold boolD
  exact okR_bind
theorem t_cmp {op : CmpOp} {r : R2} {g : PyData → PyData → R Bool} (ho : OpR X (compareOp op) r) (h : Sem2 C .f r (boolD g)) (ha : PE X a (tM C .b ma)) (hb : PE X b (tM C .b mb)) (hm : behindInMarks op b = false) :
    PT X (.Compare a [op] [b] pos) (tT C (mT2 g ma mb)) := (pt_cmpR ho ha hb hm).imp fun σ H Q ⟨ρ, F, rp, q⟩ => by
  refine tOp_of h ⟨ρ, F, rp, ?_⟩
  unfold mT2 at q
  unfold m2
  rw [okR_bind] at q ⊢
  refine okR_mono q fun d _ q => ?_
  rw [okR_bind] at q ⊢
  refine okR_mono q fun e _ q => boolD_ok.mpr (okR_mono q fun b _ q v F' H' e1 hd => ?_)
  cases (show Is C.toBs F' v (.bool b) from hd)
  exact ⟨b, rfl, q F' H' e1⟩
/-- truth of any value -/
def gTru : PyData → R Bool
  | .none => .ok false
  | .bool b => .ok b
  | .int i => .ok (i != 0)
  | .str x => if x.length ≤ sizeLine then .ok ((x.length : Int) != 0) else .st
  | .list xs => .ok (!xs.isEmpty)
  | .tuple xs => .ok (!xs.isEmpty)
  | .dict _ => .st
def mTru (ma : Env → R PyData) (ρ : Env) : R Bool := (ma ρ).bind gTru
theorem isEmpty_len {α β : Type} {xs : List α} {ys : List β} (h : xs.length = ys.length) : xs.isEmpty = ys.isEmpty := by
  cases xs <;> cases ys <;> first | rfl | cases h
theorem t_val (ha : PE X a (tM C .b ma)) (he : ∀ whole, isTrue a X.env whole = (do let v ← whole; standAt a.pos; holding [v] (truthy v)) := by intro _; rfl) (hB : On C X) : PT X a (tT C (mTru ma)) :=
  (pt_truth ha he).imp fun σ H Q ⟨ρ, F, rp, q⟩ => by
    unfold mTru at q
    rw [okR_bind] at q
    refine ⟨ρ, F, rp, okR_mono q fun d _ q v F' H' e1 hd => ?_⟩
    have hd : Bor C.toBs F' H' v d := hd
    cases d with
    | none => cases hd.non; exact ⟨_, rfl, q F' H' e1⟩
    | bool b => cases hd.bl; exact ⟨_, rfl, q F' H' e1⟩
    | int i => cases hd.int; exact ⟨_, rfl, q F' H' e1⟩
    | str x =>
      cases hd.str
      simp only [gTru] at q
      split at q
      · rename_i c
        exact ⟨_, ⟨c, rfl⟩, q F' H' e1⟩
      · exact q.elim
    | list xs =>
      obtain ⟨p, ys, rfl, l, z, i⟩ := hd.list e1.sub
      rw [hB.K] at l
      exact ⟨_, .inl ⟨ys, l, rfl⟩, by rw [isEmpty_len i.length]; exact q F' H' e1⟩
    | tuple xs =>
      obtain ⟨p, ys, rfl, l, z, i, _⟩ := hd.tup e1.sub
      rw [hB.K] at l
      exact ⟨_, .inr (.inl ⟨ys, l, rfl⟩), by rw [isEmpty_len i.length]; exact q F' H' e1⟩
    | dict es => exact q.elim
def mNot (ta : Env → R Bool) (ρ : Env) : R Bool := (ta ρ).bind fun b => .ok (!b)
def mAnd (ta tb : Env → R Bool) (ρ : Env) : R Bool := (ta ρ).bind fun b => if b = true then tb ρ else .ok false
def mOr (ta tb : Env → R Bool) (ρ : Env) : R Bool := (ta ρ).bind fun b => if b = true then .ok true else tb ρ
theorem t_not (ha : PT X a (tT C ta)) : PT X (.UnaryOp .Not a pos) (tT C (mNot ta)) := (pt_not ha).imp fun σ H Q ⟨ρ, F, rp, q⟩ => by
  unfold mNot at q
  rw [okR_bind] at q
  exact ⟨ρ, F, rp, okR_mono q fun b _ q => q⟩
theorem w_and1 (ha : PT X a (tT C ta)) : PW X (.BoolOp .And [a] pos) (tT C ta) := pw_and1 ha
theorem w_or1 (ha : PT X a (tT C ta)) : PW X (.BoolOp .Or [a] pos) (tT C ta) := pw_or1 ha
theorem w_and {rest : List Expr} (ha : PT X a (tT C ta)) (hb : PW X (.BoolOp .And (b :: rest) pos) (tT C tb)) : PW X (.BoolOp .And (a :: b :: rest) pos) (tT C (mAnd ta tb)) := (pw_and ha hb).imp fun σ H Q ⟨ρ, F, rp, q⟩ => by
  unfold mAnd at q
  rw [okR_bind] at q
  refine ⟨ρ, F, rp, okR_mono q fun k _ q F1 H1 e1 => ?_⟩
  cases k with
  | true =>
    rw [if_pos rfl] at q ⊢
    exact ⟨ρ, F1, rp.on e1, okR_mono q fun b _ q F2 H2 e2 => q F2 H2 (e1.trans e2)⟩
  | false =>
    rw [if_neg Bool.false_ne_true] at q ⊢
    exact q F1 H1 e1
theorem w_or {rest : List Expr} (ha : PT X a (tT C ta)) (hb : PW X (.BoolOp .Or (b :: rest) pos) (tT C tb)) : PW X (.BoolOp .Or (a :: b :: rest) pos) (tT C (mOr ta tb)) := (pw_or ha hb).imp fun σ H Q ⟨ρ, F, rp, q⟩ => by
  unfold mOr at q
  rw [okR_bind] at q
  refine ⟨ρ, F, rp, okR_mono q fun k _ q F1 H1 e1 => ?_⟩
  cases k with
  | true =>
    rw [if_pos rfl] at q ⊢
    exact q F1 H1 e1
  | false =>
    rw [if_neg Bool.false_ne_true] at q ⊢
    exact ⟨ρ, F1, rp.on e1, okR_mono q fun b _ q F2 H2 e2 => q F2 H2 (e1.trans e2)⟩
/-- and, or, not as values: of truths -/
def mAndV (ma mb : Env → R PyData) (ρ : Env) : R PyData := (ma ρ).bind fun d => match d with
  | .bool true => mb ρ
  | .bool false => .ok (.bool false)
  | _ => .st
def mOrV (ma mb : Env → R PyData) (ρ : Env) : R PyData := (ma ρ).bind fun d => match d with
  | .bool true => .ok (.bool true)
  | .bool false => mb ρ
  | _ => .st
def mNotV (ma : Env → R PyData) (ρ : Env) : R PyData := (ma ρ).bind fun d => match d with
  | .bool b => .ok (.bool (!b))
  | _ => .st
theorem v_one {op} (ha : PE X a (tM C M ma)) : PE X (.BoolOp op [a] pos) (tM C M ma) := pe_one ha
theorem v_and {rest : List Expr} (ha : PE X a (tM C .f ma)) (hb : PE X (.BoolOp .And (b :: rest) pos) (tM C .f mb)) : PE X (.BoolOp .And (a :: b :: rest) pos) (tM C .f (mAndV ma mb)) := (pe_and ha hb).imp fun σ H Q ⟨ρ, F, rp, q⟩ => by
  unfold mAndV at q
  rw [okR_bind] at q
  refine ⟨ρ, F, rp, okR_mono q fun d _ q v F1 H1 e1 hd => ?_⟩
  have hd : Is C.toBs F1 v d := hd
  split at q
  · cases hd
    exact ⟨true, rfl, by rw [if_pos rfl]; exact ⟨ρ, F1, rp.on e1, okR_mono q fun b _ q => Wd.on q e1⟩⟩
  · cases hd
    exact ⟨false, rfl, by rw [if_neg Bool.false_ne_true]; exact q _ F1 H1 e1 (.bl false)⟩
  · exact q.elim
theorem v_or {rest : List Expr} (ha : PE X a (tM C .f ma)) (hb : PE X (.BoolOp .Or (b :: rest) pos) (tM C .f mb)) : PE X (.BoolOp .Or (a :: b :: rest) pos) (tM C .f (mOrV ma mb)) := (pe_or ha hb).imp fun σ H Q ⟨ρ, F, rp, q⟩ => by
  unfold mOrV at q
  rw [okR_bind] at q
  refine ⟨ρ, F, rp, okR_mono q fun d _ q v F1 H1 e1 hd => ?_⟩
  have hd : Is C.toBs F1 v d := hd
  split at q
  · cases hd
    exact ⟨true, rfl, by rw [if_pos rfl]; exact q _ F1 H1 e1 (.bl true)⟩
  · cases hd
    exact ⟨false, rfl, by rw [if_neg Bool.false_ne_true]; exact ⟨ρ, F1, rp.on e1, okR_mono q fun b _ q => Wd.on q e1⟩⟩
  · exact q.elim
theorem v_not (ha : PE X a (tM C .f ma)) : PE X (.UnaryOp .Not a pos) (tM C .f (mNotV ma)) := (pe_not ha).imp fun σ H Q ⟨ρ, F, rp, q⟩ => by
  unfold mNotV at q
  rw [okR_bind] at q
  refine ⟨ρ, F, rp, okR_mono q fun d _ q v F1 H1 e1 hd => ?_⟩
  have hd : Is C.toBs F1 v d := hd
  split at q
  · cases hd
    exact ⟨_, rfl, q _ F1 H1 e1 (.bl _)⟩
  · exact q.elim
/-- a op1 b op2 c -/
def mChn (g g' : PyData → PyData → R Bool) (ma mb mc : Env → R PyData) (ρ : Env) : R Bool := (ma ρ).bind fun d => (mb ρ).bind fun e => (g d e).bind fun k => if k = true then (mc ρ).bind fun f => g' e f else .ok false
theorem t_chain {op op' : CmpOp} {r r' : R2} {g g' : PyData → PyData → R Bool} (ho : OpR X (compareOp op) r) (h : Sem2 C .f r (boolD g)) (ho' : OpR X (compareOp op') r') (h' : Sem2 C .f r' (boolD g'))
    (ha : PE X a (tM C .b ma)) (hb : PE X b (tM C .b mb)) (hc : PE X c (tM C .b mc)) (hm : lastMarks [op, op'] [b, c] = false := by with_unfolding_all rfl) : PT X (.Compare a [op, op'] [b, c] pos) (tT C (mChn g g' ma mb mc)) :=
  (pt_chain ho ho' ha hb hc hm).imp fun σ H Q ⟨ρ, F, rp, q⟩ => by
    unfold mChn at q
    rw [okR_bind] at q
    refine ⟨ρ, F, rp, okR_mono q fun d _ q v F1 H1 e1 h1 => ?_⟩
    rw [okR_bind] at q
    have rp1 := rp.on e1
    refine ⟨ρ, F1, rp1, okR_mono q fun e _ q u F2 H2 e2 h2 => ?_⟩
    have e12 := e1.trans e2
    have rp2 := rp.on e12
    rw [okR_bind] at q
    refine h F2 H2 v u d e _ (rp2.ext) (Bor.mono e2.fr e2.all h1) h2 (boolD_ok.mpr (okR_mono q fun k _ q w F3 H3 e3 hd => ?_))
    cases (show Is C.toBs F3 w (.bool k) from hd)
    refine ⟨k, rfl, ?_⟩
    cases k with
    | true =>
      rw [if_pos rfl] at q ⊢
      rw [okR_bind] at q
      refine ⟨ρ, F3, rp2.on e3, okR_mono q fun f _ q w' F4 H4 e4 h4 => ?_⟩
      have e34 := e3.trans e4
      refine h' F4 H4 u w' e f _ (rp2.ext.trans e34) (Bor.mono e34.fr e34.all h2) h4 (boolD_ok.mpr (okR_mono q fun k2 _ q w2 F5 H5 e5 hd => ?_))
      cases (show Is C.toBs F5 w2 (.bool k2) from hd)
      exact ⟨k2, rfl, q F5 H5 (e12.trans (e34.trans e5))⟩
    | false =>
      rw [if_neg Bool.false_ne_true] at q ⊢
      exact ⟨false, rfl, q F3 H3 (e12.trans e3)⟩

def mChnV (g g' : PyData → PyData → R Bool) (ma mb mc : Env → R PyData) (ρ : Env) : R PyData := (mChn g g' ma mb mc ρ).bind fun b => .ok (.bool b)
theorem v_chain {op op' : CmpOp} {r r' : R2} {g g' : PyData → PyData → R Bool} (ho : OpR X (compareOp op) r) (h : Sem2 C .f r (boolD g)) (ho' : OpR X (compareOp op') r') (h' : Sem2 C .f r' (boolD g'))
    (ha : PE X a (tM C .b ma)) (hb : PE X b (tM C .b mb)) (hc : PE X c (tM C .b mc)) (hm : lastMarks [op, op'] [b, c] = false := by with_unfolding_all rfl) : PE X (.Compare a [op, op'] [b, c] pos) (tM C .f (mChnV g g' ma mb mc)) :=
  (pe_chain ho ho' ha hb hc hm).imp fun σ H Q ⟨ρ, F, rp, q⟩ => by
    unfold mChnV mChn at q
    rw [okR_bind, okR_bind] at q
    refine ⟨ρ, F, rp, okR_mono q fun d _ q v F1 H1 e1 h1 => ?_⟩
    rw [okR_bind] at q
    have rp1 := rp.on e1
    refine ⟨ρ, F1, rp1, okR_mono q fun e _ q u F2 H2 e2 h2 => ?_⟩
    have e12 := e1.trans e2
    have rp2 := rp.on e12
    rw [okR_bind] at q
    refine h F2 H2 v u d e _ (rp2.ext) (Bor.mono e2.fr e2.all h1) h2 (boolD_ok.mpr (okR_mono q fun k _ q w F3 H3 e3 hd => ?_))
    cases (show Is C.toBs F3 w (.bool k) from hd)
    refine ⟨k, rfl, ?_⟩
    cases k with
    | true =>
      rw [if_pos rfl] at q ⊢
      rw [okR_bind] at q
      refine ⟨ρ, F3, rp2.on e3, okR_mono q fun f _ q w' F4 H4 e4 h4 => ?_⟩
      have e34 := e3.trans e4
      exact h' F4 H4 u w' e f _ (rp2.ext.trans e34) (Bor.mono e34.fr e34.all h2) h4 (boolD_ok.mpr (okR_mono q fun k2 _ q => Wd.on q (e12.trans e34)))
    | false =>
      rw [if_neg Bool.false_ne_true] at q ⊢
      exact q _ F3 H3 (e12.trans e3) (.bl false)

/-! ### is -/
def gIs (d e : PyData) : R Bool := match e with
  | .none => .ok (isNon d)
  | .bool b => match d with
    | .bool a => .ok (decide (a = b))
    | _ => .st
  | _ => .st
def gIsNot (d e : PyData) : R Bool := (gIs d e).bind fun b => .ok (!b)
abbrev rIsA : R2 := rOr (fun x y H Q => y = .non ∧ Q (.bl (decide (x = .non))) H) rIsB
abbrev rIsNotA : R2 := rOr (fun x y H Q => y = .non ∧ Q (.bl (!decide (x = .non))) H) rNotB
theorem op_isA : OpR X (compareOp .Is) rIsA := opR_or op_isN op_isBl
theorem op_isNotA : OpR X (compareOp .IsNot) rIsNotA := opR_or op_notN op_notBl
theorem Bor.isNon {B : Bs} (h : Bor B F H v d) : decide (v = .non) = Pv.isNon d := by
  cases d with
  | none => cases h.non; rfl
  | bool b => cases h.bl; rfl
  | int b => cases h.int; rfl
  | str b => cases h.str; rfl
  | list b =>
    rcases h with h | ⟨_, rfl, _⟩
    · cases h <;> rfl
    · rfl
  | tuple b =>
    rcases h with h | ⟨_, rfl, _⟩
    · cases h <;> rfl
    · rfl
  | dict b =>
    rcases h with h | ⟨_, rfl, _⟩
    · cases h <;> rfl
    · rfl
theorem sem_is : Sem2 C .f rIsA (boolD gIs) := by
  intro F H x y d e Q e0 h1 h2 q
  unfold boolD gIs at q
  split at q
  · cases h2.non
    exact .inl ⟨rfl, by rw [h1.isNon]; exact wd_bl e0.sub q⟩
  · split at q
    · cases h2.bl
      cases h1.bl
      exact .inr ⟨_, _, rfl, rfl, wd_bl e0.sub q⟩
    · exact q.elim
  · exact q.elim
theorem sem_isNot : Sem2 C .f rIsNotA (boolD gIsNot) := by
  intro F H x y d e Q e0 h1 h2 q
  unfold boolD gIsNot gIs at q
  split at q
  · cases h2.non
    exact .inl ⟨rfl, by rw [h1.isNon]; exact wd_bl e0.sub q⟩
  · split at q
    · cases h2.bl
      cases h1.bl
      exact .inr ⟨_, _, rfl, rfl, wd_bl e0.sub q⟩
    · exact q.elim
  · exact q.elim

/-! ### places -/
def gIxS (d e : PyData) : R PyData := match d, e with
  | .list xs, .int i => match atI xs i with
    | some x => .ok x
    | none => .st
  | .tuple xs, .int i => match atI xs i with
    | some x => .ok x
    | none => .st
  | .str z, .int i => if z.length ≤ sizeLine then match atI z.cps.toList i with
    | some c => .ok (.str ⟨#[c]⟩)
    | none => .st
    else .st
  | _, _ => .st
theorem isAll_at {B : Bs} {xs : List V} {ds : List PyData} {i : Int} {x : PyData} (h : IsAll B F xs ds) (e : atI ds i = some x) : ∃ v, atI xs i = some v ∧ Is B F v x := by
  unfold atI at e ⊢
  rw [h.length]
  cases hx : ixN ds.length i with
  | none => rw [hx] at e; cases e
  | some j =>
    rw [hx] at e
    exact h.getD (i := j) e
theorem sem_ix : Sem2 C .f (rIx C.K) gIxS := by
  intro F H x y d e Q e0 h1 h2 q
  unfold gIxS at q
  split at q
  · split at q
    · rename_i he
      obtain ⟨p, ys, rfl, l, z, i⟩ := h1.list e0.sub
      cases h2.int
      obtain ⟨v, hv, iv⟩ := isAll_at i he
      exact .inl ⟨p, ys, _, v, rfl, rfl, l, hv, q v F H (Ext.refl e0.sub) iv⟩
    · exact q.elim
  · split at q
    · rename_i he
      obtain ⟨p, ys, rfl, l, z, i, _⟩ := h1.tup e0.sub
      cases h2.int
      obtain ⟨v, hv, iv⟩ := isAll_at i he
      exact .inr (.inl ⟨p, ys, _, v, rfl, rfl, l, hv, q v F H (Ext.refl e0.sub) iv⟩)
    · exact q.elim
  · split at q
    · rename_i c
      split at q
      · rename_i he
        cases h1.str
        cases h2.int
        exact .inr (.inr ⟨_, _, _, rfl, rfl, c, he, wd_str e0.sub q⟩)
      · exact q.elim
    · exact q.elim
  · exact q.elim
theorem e_ix (hB : On C X) (ha : PE X a (tM C .b ma)) (hb : PE X b (tM C .b mb)) (hs : PlainIx b := by intro _ _; rfl) : PE X (.Subscript a b pos) (tM C .f (m2 gIxS ma mb)) := by
  have h : Sem2 C .f (rIx X.K) gIxS := by rw [← hB.K]; exact sem_ix
  exact (pe_ix ix_seq ha hb hs).imp fun _ _ _ q => tOp_of h q

/-! ### slices -/
def mOpt (o : Option (Env → R PyData)) (ρ : Env) : R (Option Int) := match o with
  | none => .ok none
  | some m => (m ρ).bind fun d => match d with
    | .int i => .ok (some i)
    | _ => .st
def tO (C : Cc) (o : Option (Env → R PyData)) : TO := fun σ H Q => ∃ ρ F, Rep C.toCb ρ σ F H ∧ OkR (mOpt o ρ) (fun i => ∀ F' H', Ext F H F' H' → Q i H') C.wx
theorem o_none : PO X none (tO C none) := ⟨fun pins s σ H Q I ⟨ρ, F, rp, q⟩ => po_none.run pins s σ H Q I (q F H (Ext.refl rp.sub))⟩
theorem o_some (h : PE X a (tM C .f ma)) : PO X (some a) (tO C (some ma)) := ⟨fun pins s σ H Q I ⟨ρ, F, rp, q⟩ => (po_some h).run pins s σ H Q I (by
  unfold mOpt at q
  simp only [] at q
  rw [okR_bind] at q
  refine ⟨ρ, F, rp, okR_mono q fun d _ q v F' H' e1 hd => ?_⟩
  have hd : Is C.toBs F' v d := hd
  split at q
  · cases hd
    exact ⟨_, rfl, q F' H' e1⟩
  · exact q.elim)⟩
def cutD (xs : List PyData) (lo hi : Option Int) : List PyData := (xs.drop (HT.sIx xs.length 0 lo)).take (HT.sIx xs.length xs.length hi - HT.sIx xs.length 0 lo)
def gSl (d : PyData) (lo hi : Option Int) : R PyData := match d with
  | .list xs => .ok (.list (cutD xs lo hi))
  | .tuple xs => .ok (.tuple (cutD xs lo hi))
  | .str z => if z.length ≤ sizeLine then .ok (.str (cutS z lo hi)) else .st
  | _ => .st
def mSl (ma : Env → R PyData) (lo hi : Option (Env → R PyData)) (ρ : Env) : R PyData := (ma ρ).bind fun d => (mOpt lo ρ).bind fun l => (mOpt hi ρ).bind fun h => gSl d l h
theorem cut_is {B : Bs} {xs : List V} {ds : List PyData} (h : IsAll B F xs ds) (lo hi : Option Int) : IsAll B F (cutV xs lo hi) (cutD ds lo hi) := by
  unfold cutV cutD
  rw [h.length]
  exact (h.drop _).take _
theorem cutD_whole {ds : List PyData} {lo hi : Option Int} (h : HT.sIx ds.length 0 lo = 0 ∧ HT.sIx ds.length ds.length hi = ds.length) : cutD ds lo hi = ds := by
  unfold cutD
  rw [h.1, h.2, List.drop_zero, Nat.sub_zero, List.take_length]
theorem e_sl {lo hi : Option Expr} {p2 : Pos} {ml mh : Option (Env → R PyData)} (hB : On C X) (ha : PE X a (tM C .b ma)) (hl : PO X lo (tO C ml)) (hh : PO X hi (tO C mh)) : PE X (.Subscript a (.Slice lo hi none p2) pos) (tM C .f (mSl ma ml mh)) :=
  (pe_slice (SlR.or sl_list (SlR.or sl_tupA sl_str)) ha hl hh).imp fun σ H Q ⟨ρ, F, rp, q⟩ => by
    unfold mSl at q
    rw [okR_bind] at q
    refine ⟨ρ, F, rp, okR_mono q fun d _ q v F1 H1 e1 h1 => ?_⟩
    rw [okR_bind] at q
    refine ⟨ρ, F1, rp.on e1, okR_mono q fun l _ q F2 H2 e2 => ?_⟩
    rw [okR_bind] at q
    have e12 := e1.trans e2
    refine ⟨ρ, F2, rp.on e12, okR_mono q fun u _ q F3 H3 e3 => ?_⟩
    have e13 := e12.trans e3
    have h3 : Bor C.toBs F3 H3 v d := Bor.mono (e2.fr.trans e3.fr) (e2.all.trans e3.all) h1
    unfold gSl at q
    split at q
    · obtain ⟨p, ys, rfl, l1, z, i⟩ := h3.list e13.sub
      rw [hB.K] at l1
      refine .inl ⟨p, ys, rfl, l1, fun p2 hp => ?_⟩
      have e4 := Ext.frz e13.sub (o := .lst (cutV ys l u)) hp
      exact q (.ref p2) _ _ (e13.trans e4) (.lst upd_same (Nat.le_trans (cutV_length ys l u) z) ((cut_is i l u).mono e4.fr))
    · obtain ⟨p, ys, rfl, l1, z, i, j⟩ := h3.tup e13.sub
      rw [hB.K] at l1
      refine .inr (.inl ⟨p, ys, rfl, l1, fun hw => ?_, fun hw p2 hp => ?_⟩)
      · rw [i.length] at hw
        refine q (.ref p) F3 H3 e13 ?_
        rw [cutD_whole hw]
        exact j
      · have e4 := Ext.frz e13.sub (o := .tup (cutV ys l u)) hp
        exact q (.ref p2) _ _ (e13.trans e4) (.tup (.of upd_same) (Nat.le_trans (cutV_length ys l u) z) ((cut_is i l u).mono e4.fr))
    · split at q
      · rename_i c
        cases h3.str
        exact .inr (.inr ⟨_, rfl, c, q _ F3 H3 e13 (.str _)⟩)
      · exact q.elim
    · exact q.elim

/-! ### argument lists, displays -/
/-- arguments: frozen (true) or to be read (false) -/
inductive HdL (B : Bs) (F H : Hp) : List Bool → List V → List PyData → Prop
  | nil : HdL B F H [] [] []
  | f {v : V} {d : PyData} {Ms : List Bool} {vs : List V} {ds : List PyData} : Is B F v d → HdL B F H Ms vs ds → HdL B F H (true :: Ms) (v :: vs) (d :: ds)
  | b {v : V} {d : PyData} {Ms : List Bool} {vs : List V} {ds : List PyData} : Bor B F H v d → HdL B F H Ms vs ds → HdL B F H (false :: Ms) (v :: vs) (d :: ds)
theorem HdL.mono (f : Same F F') (s : Same H H') : ∀ {Ms : List Bool} {vs : List V} {ds : List PyData}, HdL C.toBs F H Ms vs ds → HdL C.toBs F' H' Ms vs ds
  | _, _, _, .nil => .nil
  | _, _, _, .f h r => .f (h.mono f) (HdL.mono f s r)
  | _, _, _, .b h r => .b (h.mono f s) (HdL.mono f s r)
theorem HdL.lens : ∀ {Ms : List Bool} {vs : List V} {ds : List PyData}, HdL C.toBs F H Ms vs ds → vs.length = Ms.length ∧ ds.length = Ms.length
  | _, _, _, .nil => ⟨rfl, rfl⟩
  | _, _, _, .f _ r => ⟨congrArg (· + 1) r.lens.1, congrArg (· + 1) r.lens.2⟩
  | _, _, _, .b _ r => ⟨congrArg (· + 1) r.lens.1, congrArg (· + 1) r.lens.2⟩
theorem HdL.all : ∀ {n : Nat} {vs : List V} {ds : List PyData}, HdL C.toBs F H (List.replicate n true) vs ds → IsAll C.toBs F vs ds
  | 0, _, _, .nil => .nil
  | n + 1, _, _, .f h r => .cons h (HdL.all (n := n) r)
def mAll : List (Env → R PyData) → Env → R (List PyData)
  | [], _ => .ok []
  | m :: ms, ρ => (m ρ).bind fun d => (mAll ms ρ).bind fun ds => .ok (d :: ds)
def tAs (C : Cc) (Ms : List Bool) (ms : List (Env → R PyData)) : TA := fun σ H Q => ∃ ρ F, Rep C.toCb ρ σ F H ∧ OkR (mAll ms ρ) (fun ds => ∀ vs F' H', Ext F H F' H' → HdL C.toBs F' H' Ms vs ds → Q vs H') C.wx
variable {es : List Expr} {Ms : List Bool} {ms : List (Env → R PyData)}
theorem a_nil : PA X [] (tAs C [] []) := pa_nil.imp fun σ H Q ⟨ρ, F, rp, q⟩ => q [] F H (Ext.refl rp.sub) .nil
theorem a_f (ha : PE X a (tM C .f ma)) (hr : PA X es (tAs C Ms ms)) (hs : starEach (a :: es) X.env = (false, eval a X.env) :: starEach es X.env := by rfl) : PA X (a :: es) (tAs C (true :: Ms) (ma :: ms)) :=
  (pa_cons ha hr hs).imp fun σ H Q ⟨ρ, F, rp, q⟩ => by
    unfold mAll at q
    rw [okR_bind] at q
    refine ⟨ρ, F, rp, okR_mono q fun d _ q v F1 H1 e1 h1 => ?_⟩
    rw [okR_bind] at q
    exact ⟨ρ, F1, rp.on e1, okR_mono q fun ds _ q vs F2 H2 e2 h2 => q (v :: vs) F2 H2 (e1.trans e2) (.f (Is.mono e2.fr h1) h2)⟩
theorem a_b (ha : PE X a (tM C .b ma)) (hr : PA X es (tAs C Ms ms)) (hs : starEach (a :: es) X.env = (false, eval a X.env) :: starEach es X.env := by rfl) : PA X (a :: es) (tAs C (false :: Ms) (ma :: ms)) :=
  (pa_cons ha hr hs).imp fun σ H Q ⟨ρ, F, rp, q⟩ => by
    unfold mAll at q
    rw [okR_bind] at q
    refine ⟨ρ, F, rp, okR_mono q fun d _ q v F1 H1 e1 h1 => ?_⟩
    rw [okR_bind] at q
    exact ⟨ρ, F1, rp.on e1, okR_mono q fun ds _ q vs F2 H2 e2 h2 => q (v :: vs) F2 H2 (e1.trans e2) (.b (Bor.mono e2.fr e2.all h1) h2)⟩
def mTup (ms : List (Env → R PyData)) (ρ : Env) : R PyData := (mAll ms ρ).bind fun ds => .ok (.tuple ds)
def mLst (ms : List (Env → R PyData)) (ρ : Env) : R PyData := (mAll ms ρ).bind fun ds => .ok (.list ds)
theorem small_line {n : Nat} (h : n ≤ 1000) : n ≤ sizeLine := Nat.le_trans h (by decide)
theorem e_tup {n : Nat} {x1} (h : PA X es (tAs C (List.replicate n true) ms)) (hn : n ≤ 1000 := by decide) : PE X (.Tuple es x1 pos) (tM C .f (mTup ms)) := (pe_tup h).imp fun σ H Q ⟨ρ, F, rp, q⟩ => by
  unfold mTup at q
  rw [okR_bind] at q
  refine ⟨ρ, F, rp, okR_mono q fun ds _ q vs F1 H1 e1 h1 => ?_⟩
  have hl : vs.length ≤ sizeLine := by rw [h1.lens.1, List.length_replicate]; exact small_line hn
  refine ⟨hl, fun p hp => ?_⟩
  have e2 := Ext.frz e1.sub (o := .tup vs) hp
  exact q (.ref p) _ _ (e1.trans e2) (.tup (.of upd_same) hl (h1.all.mono e2.fr))
theorem e_lst {n : Nat} (h : PA X es (tAs C (List.replicate n true) ms)) (hn : n ≤ 1000 := by decide) : PE X (.List es pos) (tM C .o (mLst ms)) := (pe_lst h).imp fun σ H Q ⟨ρ, F, rp, q⟩ => by
  unfold mLst at q
  rw [okR_bind] at q
  refine ⟨ρ, F, rp, okR_mono q fun ds _ q vs F1 H1 e1 h1 => ?_⟩
  have hl : vs.length ≤ sizeLine := by rw [h1.lens.1, List.length_replicate]; exact small_line hn
  refine ⟨hl, fun p hp => ?_⟩
  have e2 := Ext.push e1.sub (o := .lst vs) hp
  exact q (.ref p) _ _ (e1.trans e2) ⟨p, rfl, e1.all.free hp, e1.sub.free hp, .lst upd_same hl h1.all⟩

/-! ### calls of built-ins by name: one value -/
/-- what a call of one value does is told by g -/
def Sem1 (C : Cc) (M : Md) (r : List V → Hp → VK → Prop) (g : PyData → R PyData) : Prop :=
  ∀ (F H : Hp) (x : V) (d : PyData) (Q : VK), Ext C.F0 C.H0 F H → Bor C.toBs F H x d → OkR (g d) (Wd C M F H Q) C.wx → r [x] H Q
theorem HdL.b1 {vs : List V} {ds : List PyData} (h : HdL C.toBs F H [false] vs ds) : ∃ v d, vs = [v] ∧ ds = [d] ∧ Bor C.toBs F H v d := by
  cases h with
  | b h r => cases r; exact ⟨_, _, rfl, rfl, h⟩
theorem tCB_of {M : Md} {r : List V → Hp → VK → Prop} {g : PyData → R PyData} (h : Sem1 C M r g) {Q : VK} (q : tM C M (m1 g ma) σ H Q) : tCB r (tAs C [false] [ma]) σ H Q := by
  obtain ⟨ρ, F, rp, q⟩ := q
  refine ⟨ρ, F, rp, ?_⟩
  unfold m1 at q
  unfold mAll mAll
  rw [okR_bind] at q ⊢
  refine okR_mono q fun d _ q => ?_
  intro vs F1 H1 e1 h1
  obtain ⟨v, d', rfl, e, hb⟩ := h1.b1
  cases e
  exact h F1 H1 v d Q (rp.ext.trans e1) hb (okR_mono q fun k _ w => Wd.on w e1)
theorem one_b (ha : PE X a (tM C .b ma)) (hs : starEach [a] X.env = (false, eval a X.env) :: starEach [] X.env) : PA X [a] (tAs C [false] [ma]) := a_b ha a_nil hs
theorem e_cb {x : Str} {id : String} {p : Pos} {M : Md} {r : List V → Hp → VK → Prop} {g : PyData → R PyData} (hc : CallR X (.builtin id) r) (h : Sem1 C M r g) (hm : X.mg x = none) (hv : bootBuiltins x = some (.builtin id)) (ha : PE X a (tM C .b ma))
    (hg : Gl X x := by rfl) (hs : starEach [a] X.env = (false, eval a X.env) :: starEach [] X.env := by rfl) (hn : x ≠ "__name__" := by decide) (hdb : (x == ("__debug__" : Str)) = false := by decide)
    (hpl : (backTo pos (starEach [] X.env)).any (·.1) = false := by rfl) : PE X (.Call (.Name x p) [a] [] pos) (tM C M (m1 g ma)) :=
  (pe_callB hc hg hm hv (one_b ha hs) hn hdb hs hpl).imp fun _ _ _ q => tCB_of h q
theorem e_ct {x : Str} {T : String} {p : Pos} {M : Md} {r : List V → Hp → VK → Prop} {g : PyData → R PyData} (hc : CallR X (.type T) r) (h : Sem1 C M r g) (hm : X.mg x = none) (hv : bootBuiltins x = some (.type T)) (ha : PE X a (tM C .b ma))
    (hg : Gl X x := by rfl) (hs : starEach [a] X.env = (false, eval a X.env) :: starEach [] X.env := by rfl) (hn : x ≠ "__name__" := by decide) (hdb : (x == ("__debug__" : Str)) = false := by decide)
    (hpl : (backTo pos (starEach [] X.env)).any (·.1) = false := by rfl) : PE X (.Call (.Name x p) [a] [] pos) (tM C M (m1 g ma)) :=
  (pe_callTy hc hg hm hv (one_b ha hs) hn hdb hs hpl).imp fun _ _ _ q => tCB_of h q
def gLen : PyData → R PyData
  | .list xs => .ok (.int xs.length)
  | .tuple xs => .ok (.int xs.length)
  | .str z => if z.length ≤ sizeLine then .ok (.int z.length) else .st
  | _ => .st
abbrev rLenA (K : PySem.W.Frag) : List V → Hp → VK → Prop := fun xs H Q => (∃ p ys, xs = [.ref p] ∧ (SqL K H p ys ∨ SqT K H p ys) ∧ Q (.int ys.length) H) ∨ (∃ z, xs = [.str z] ∧ z.length ≤ sizeLine ∧ Q (.int z.length) H)
theorem cr_len : CallR X (.builtin "len") (rLenA X.K) := CallR.or call_len_seq call_len_str
theorem sem_len : Sem1 C .f (rLenA C.K) gLen := by
  intro F H x d Q e0 h1 q
  unfold gLen at q
  split at q
  · obtain ⟨p, ys, rfl, l, z, i⟩ := h1.list e0.sub
    exact .inl ⟨p, ys, rfl, .inl l, by rw [i.length]; exact wd_int e0.sub q⟩
  · obtain ⟨p, ys, rfl, l, z, i, _⟩ := h1.tup e0.sub
    exact .inl ⟨p, ys, rfl, .inr l, by rw [i.length]; exact wd_int e0.sub q⟩
  · split at q
    · rename_i c
      cases h1.str
      exact .inr ⟨_, rfl, c, wd_int e0.sub q⟩
    · exact q.elim
  · exact q.elim
def gTuple : PyData → R PyData
  | .list xs => .ok (.tuple xs)
  | .tuple xs => .ok (.tuple xs)
  | _ => .st
abbrev rTupleA (K : PySem.W.Frag) : List V → Hp → VK → Prop := fun xs H Q => ∃ p ys, xs = [.ref p] ∧ ((SqL K H p ys ∧ ∀ l, H l = none → Q (.ref l) (upd H l (.tup ys))) ∨ (SqT K H p ys ∧ Q (.ref p) H))
theorem sem_tuple : Sem1 C .f (rTupleA C.K) gTuple := by
  intro F H x d Q e0 h1 q
  unfold gTuple at q
  split at q
  · obtain ⟨p, ys, rfl, l, z, i⟩ := h1.list e0.sub
    refine ⟨p, ys, rfl, .inl ⟨l, fun p2 hp => ?_⟩⟩
    have e4 := Ext.frz e0.sub (o := .tup ys) hp
    exact q (.ref p2) _ _ e4 (.tup (.of upd_same) z (i.mono e4.fr))
  · obtain ⟨p, ys, rfl, l, z, i, j⟩ := h1.tup e0.sub
    exact ⟨p, ys, rfl, .inr ⟨l, q _ F H (Ext.refl e0.sub) j⟩⟩
  · exact q.elim
def gList : PyData → R PyData
  | .list xs => .ok (.list xs)
  | .tuple xs => .ok (.list xs)
  | _ => .st
abbrev rListA (K : PySem.W.Frag) : List V → Hp → VK → Prop := fun xs H Q => ∃ p ys, xs = [.ref p] ∧ (SqL K H p ys ∨ SqT K H p ys) ∧ ∀ l, H l = none → Q (.ref l) (upd H l (.lst ys))
theorem sem_list : Sem1 C .o (rListA C.K) gList := by
  intro F H x d Q e0 h1 q
  unfold gList at q
  split at q
  · obtain ⟨p, ys, rfl, l, z, i⟩ := h1.list e0.sub
    refine ⟨p, ys, rfl, .inl l, fun p2 hp => ?_⟩
    have e4 := Ext.push e0.sub (o := .lst ys) hp
    exact q (.ref p2) _ _ e4 ⟨p2, rfl, hp, e0.sub.free hp, .lst upd_same z i⟩
  · obtain ⟨p, ys, rfl, l, z, i, j⟩ := h1.tup e0.sub
    refine ⟨p, ys, rfl, .inr l, fun p2 hp => ?_⟩
    have e4 := Ext.push e0.sub (o := .lst ys) hp
    exact q (.ref p2) _ _ e4 ⟨p2, rfl, hp, e0.sub.free hp, .lst upd_same z i⟩
  · exact q.elim
/-- any(..), all(..) of a list of truths -/
def boolsOf : List PyData → Option (List Bool)
  | [] => some []
  | .bool b :: r => (boolsOf r).map (b :: ·)
  | _ :: _ => none
def gAll : PyData → R PyData
  | .list xs => match boolsOf xs with
    | some bs => .ok (.bool (bs.all id))
    | none => .st
  | _ => .st
def gAny : PyData → R PyData
  | .list xs => match boolsOf xs with
    | some bs => .ok (.bool (bs.any id))
    | none => .st
  | _ => .st
theorem bools_is {B : Bs} : ∀ {vs : List V} {ds : List PyData} {bs : List Bool}, IsAll B F vs ds → boolsOf ds = some bs → vs = bs.map V.bl
  | _, _, bs, .nil, e => by
    cases e; rfl
  | _, _, bs, .cons h r, e => by
    cases h with
    | bl b =>
      unfold boolsOf at e
      cases hx : boolsOf _ with
      | none => rw [hx] at e; cases e
      | some cs =>
        rw [hx] at e
        cases e
        rw [bools_is r hx]
        rfl
    | _ => cases e
theorem sem_all : Sem1 C .f (rAll C.K) gAll := by
  intro F H x d Q e0 h1 q
  unfold gAll at q
  split at q
  · split at q
    · rename_i hb
      obtain ⟨p, ys, rfl, l, z, i⟩ := h1.list e0.sub
      rw [bools_is i hb] at l
      exact ⟨p, _, rfl, l, wd_bl e0.sub q⟩
    · exact q.elim
  · exact q.elim
theorem sem_any : Sem1 C .f (rAny C.K) gAny := by
  intro F H x d Q e0 h1 q
  unfold gAny at q
  split at q
  · split at q
    · rename_i hb
      obtain ⟨p, ys, rfl, l, z, i⟩ := h1.list e0.sub
      rw [bools_is i hb] at l
      exact ⟨p, _, rfl, l, wd_bl e0.sub q⟩
    · exact q.elim
  · exact q.elim
/-- isinstance(e, T) -/
def rIsa (K : PySem.W.Frag) (T : String) (p : PyData → Bool) : List V → Hp → VK → Prop := fun xs H Q => ∃ x d, xs = [x, .ty T] ∧ Dp K H x d ∧ Q (.bl (p d)) H
theorem vals_ty {x : V} {T : String} {us : List Value} (h : Vals [x, .ty T] us) : ∃ u, us = [u, .type T] ∧ RelV x u := by
  obtain ⟨u, w, rfl, r1, r2⟩ := h.two
  cases r2
  exact ⟨u, rfl, r1⟩
theorem cr_isaStr : CallR X (.builtin "isinstance") (rIsa X.K "str" PyData.isStr) := by
  intro pins s σ H xs us Q I r ⟨x, d, e, hd, q⟩
  subst e
  obtain ⟨u, rfl, r1⟩ := vals_ty r
  obtain ⟨as, rd⟩ := Dp.reads I d x u hd r1
  exact PySem.W.isinstance_str_data rd fun tk _ => ⟨.bl _, H, I.tok _, rfl, q⟩
theorem cr_isaTup : CallR X (.builtin "isinstance") (rIsa X.K "tuple" PyData.isTuple) := by
  intro pins s σ H xs us Q I r ⟨x, d, e, hd, q⟩
  subst e
  obtain ⟨u, rfl, r1⟩ := vals_ty r
  obtain ⟨as, rd⟩ := Dp.reads I d x u hd r1
  exact PySem.W.isinstance_tuple_data rd fun tk _ => ⟨.bl _, H, I.tok _, rfl, q⟩
theorem cr_isaBool : CallR X (.builtin "isinstance") (rIsa X.K "bool" PyData.isBool) := by
  intro pins s σ H xs us Q I r ⟨x, d, e, hd, q⟩
  subst e
  obtain ⟨u, rfl, r1⟩ := vals_ty r
  obtain ⟨as, rd⟩ := Dp.reads I d x u hd r1
  exact PySem.W.isinstance_bool_data rd fun tk _ => ⟨.bl _, H, I.tok _, rfl, q⟩
theorem cr_isaInt : CallR X (.builtin "isinstance") (rIsa X.K "int" PyData.isInt) := by
  intro pins s σ H xs us Q I r ⟨x, d, e, hd, q⟩
  subst e
  obtain ⟨u, rfl, r1⟩ := vals_ty r
  obtain ⟨as, rd⟩ := Dp.reads I d x u hd r1
  exact PySem.W.isinstance_int_data rd fun tk _ => ⟨.bl _, H, I.tok _, rfl, q⟩
def gIsa (p : PyData → Bool) (d : PyData) : R PyData := if PyData.plain d = true then .ok (.bool (p d)) else .st
theorem e_isa {T' : Str} {T : String} {pr : PyData → Bool} {p p2 : Pos} (hc : CallR X (.builtin "isinstance") (rIsa X.K T pr)) (hm : X.mg "isinstance" = none) (hm2 : X.mg T' = none) (hv2 : bootBuiltins T' = some (.type T)) (hB : On C X) (ha : PE X a (tM C .b ma))
    (hg : Gl X "isinstance" := by rfl) (hg2 : Gl X T' := by rfl) (hs : starEach [a, .Name T' p2] X.env = (false, eval a X.env) :: starEach [.Name T' p2] X.env := by rfl)
    (hs2 : starEach [.Name T' p2] X.env = (false, eval (.Name T' p2) X.env) :: starEach [] X.env := by rfl) (hn : T' ≠ "__name__" := by decide) (hdb : (T' == ("__debug__" : Str)) = false := by decide)
    (hpl : (backTo pos (starEach [.Name T' p2] X.env)).any (·.1) = false := by rfl) :
    PE X (.Call (.Name "isinstance" p) [a, .Name T' p2] [] pos) (tM C .f (m1 (gIsa pr) ma)) :=
  (pe_callB hc hg hm (by decide +kernel) (pa_cons ha (pa_cons (pe_bltn (v := .ty T) hg2 hm2 hv2 rfl hn hdb) pa_nil hs2) hs) (by decide) (by decide) hs hpl).imp fun σ H Q ⟨ρ, F, rp, q⟩ => by
    unfold m1 at q
    rw [okR_bind] at q
    refine ⟨ρ, F, rp, okR_mono q fun d _ q v F1 H1 e1 h1 => ?_⟩
    have hb : Bor C.toBs F1 H1 v d := h1
    unfold gIsa at q
    split at q
    · rename_i c
      refine ⟨v, d, rfl, ?_, wd_bl e1.sub (Wd.on q e1)⟩
      rw [← hB.K]
      exact hb.dp e1.sub c
    · exact q.elim
end
end Pv

/-! Pv, part 4: statements, loops, comprehensions. -/
namespace Pv
open PySem PySem.Spec PyProof.Rows L2

/-- what a statement comes to -/
inductive Fl where
  | nx (ρ : Env)
  | ct (ρ : Env)
  | bk (ρ : Env)
  | rt (d : PyData) (ρ : Env)
def FlOk (C : Cc) (D : Ends) (F : Hp) : Fl → Prop
  | .nx ρ => ∀ σ F' H', Rep C.toCb ρ σ F' H' → Same F F' → D.nx σ H'
  | .ct ρ => ∀ σ F' H', Rep C.toCb ρ σ F' H' → Same F F' → D.ct σ H'
  | .bk ρ => ∀ σ F' H', Rep C.toCb ρ σ F' H' → Same F F' → D.bk σ H'
  | .rt d ρ => ∀ v σ F' H', Rep C.toCb ρ σ F' H' → Same F F' → (if C.ro = true then ∃ a, v = .ref a ∧ C.H0 a = none ∧ F' a = none ∧ Own C.toBs F' H' a d else Is C.toBs F' v d) → D.rt v H'
def tS (C : Cc) (m : Env → R Fl) : TS := fun D σ H => ∃ ρ F, Rep C.toCb ρ σ F H ∧ OkR (m ρ) (FlOk C D F) C.wx
def mSeq (m n : Env → R Fl) (ρ : Env) : R Fl := (m ρ).bind fun fl => match fl with
  | .nx ρ' => n ρ'
  | .ct ρ' => .ok (.ct ρ')
  | .bk ρ' => .ok (.bk ρ')
  | .rt d ρ' => .ok (.rt d ρ')
def mNext (ρ : Env) : R Fl := .ok (.nx ρ)
section
variable {C : Cc} {X : Cx} {ρ : Env} {σ : L2.St} {F H F' H' : Hp} {v : V} {d : PyData} {M : Md} {a b c : Expr} {pos : Pos} {ma mb mc : Env → R PyData} {ta tb : Env → R Bool} {D : Ends} {st : Stmt} {rest sts sts' : List Stmt} {m n : Env → R Fl}
theorem FlOk.on {fl : Fl} (h : FlOk C D F fl) (s : Same F F') : FlOk C D F' fl := by
  cases fl with
  | nx ρ => exact fun σ F2 H2 r q => h σ F2 H2 r (s.trans q)
  | ct ρ => exact fun σ F2 H2 r q => h σ F2 H2 r (s.trans q)
  | bk ρ => exact fun σ F2 H2 r q => h σ F2 H2 r (s.trans q)
  | rt d ρ => exact fun v σ F2 H2 r q => h v σ F2 H2 r (s.trans q)
theorem ss_nil : PSs X [] (tS C mNext) := pss_nil.imp fun D σ H ⟨ρ, F, rp, q⟩ => q σ F H rp (Same.refl _)
theorem ss_one (h : PS X st (tS C m)) : PSs X [st] (tS C m) := pss_one h
theorem ss_cons (h : PS X st (tS C m)) (hr : PSs X rest (tS C n)) : PSs X (st :: rest) (tS C (mSeq m n)) := (pss_cons h hr).imp fun D σ H ⟨ρ, F, rp, q⟩ => by
  unfold mSeq at q
  rw [okR_bind] at q
  refine ⟨ρ, F, rp, okR_mono q fun fl _ q => ?_⟩
  cases fl with
  | nx ρ' => exact fun σ' F' H' r' s' => ⟨ρ', F', r', okR_mono q fun fl _ q => q.on s'⟩
  | ct ρ' => exact q
  | bk ρ' => exact q
  | rt d ρ' => exact q
theorem s_pass : PS X (.Pass pos) (tS C mNext) := ps_pass.imp fun D σ H ⟨ρ, F, rp, q⟩ => q σ F H rp (Same.refl _)
def mCont (ρ : Env) : R Fl := .ok (.ct ρ)
theorem s_cont : PS X (.Continue pos) (tS C mCont) := ps_continue.imp fun D σ H ⟨ρ, F, rp, q⟩ => q σ F H rp (Same.refl _)
/-- code that is never come to -/
def mNo (_ρ : Env) : R Fl := .st
theorem s_no : PS X st (tS C mNo) := (ps_never (st := st)).imp fun D σ H ⟨ρ, F, rp, q⟩ => q
def mIf (ta : Env → R Bool) (m n : Env → R Fl) (ρ : Env) : R Fl := (ta ρ).bind fun b => if b = true then m ρ else n ρ
theorem s_if (hc : PT X c (tT C ta)) (ha : PSs X sts (tS C m)) (hb : PSs X sts' (tS C n)) : PS X (.If c sts sts' pos) (tS C (mIf ta m n)) := (ps_if hc ha hb).imp fun D σ H ⟨ρ, F, rp, q⟩ => by
  unfold mIf at q
  rw [okR_bind] at q
  refine ⟨ρ, F, rp, okR_mono q fun k _ q F1 H1 e1 => ?_⟩
  cases k with
  | true =>
    rw [if_pos rfl] at q ⊢
    exact ⟨ρ, F1, rp.on e1, okR_mono q fun fl _ q => q.on e1.fr⟩
  | false =>
    rw [if_neg Bool.false_ne_true] at q ⊢
    exact ⟨ρ, F1, rp.on e1, okR_mono q fun fl _ q => q.on e1.fr⟩
def mRet (ma : Env → R PyData) (ρ : Env) : R Fl := (ma ρ).bind fun d => .ok (.rt d ρ)
theorem s_ret (ha : PE X a (tM C .f ma)) (hr : C.ro = false := by rfl) : PS X (.Return (some a) pos) (tS C (mRet ma)) := (ps_ret ha).imp fun D σ H ⟨ρ, F, rp, q⟩ => by
  unfold mRet at q
  rw [okR_bind] at q
  exact ⟨ρ, F, rp, okR_mono q fun d _ q v F' H' e1 hd => q v σ F' H' (rp.on e1) e1.fr (by rw [hr]; exact hd)⟩
theorem s_retN (hr : C.ro = false := by rfl) : PS X (.Return none pos) (tS C (mRet (mC .none))) := ps_retN.imp fun D σ H ⟨ρ, F, rp, q⟩ => q .non σ F H rp (Same.refl _) (by rw [hr]; exact Is.non)
/-- one's own is handed back -/
def mRetO (i : Nat) (ρ : Env) : R Fl := match ρ[i]? with
  | some (.ow d) => .ok (.rt d ρ)
  | _ => .st
theorem s_retO (i : Nat) {x : Str} {p1 : Pos} (hr : C.ro = true := by rfl) (hN : X.N[i]? = some x := by rfl) (hv : Vis X.env.scope x := by first | exact Or.inl rfl | exact Or.inr (Or.inl rfl) | exact Or.inr (Or.inr rfl)) (hd : (x == ("__debug__" : Str)) = false := by decide)
    (hcd : (x == ("__classdict__" : Str)) = false := by decide) : PS X (.Return (some (.Name x p1)) pos) (tS C (mRetO i)) := (ps_ret (pv i hN hv hd hcd)).imp fun D σ H ⟨ρ, F, rp, q⟩ => by
  unfold mRetO at q
  split at q
  · rename_i d hi
    obtain ⟨p, h1, h2, h3, o⟩ := rp.slot i _ hi
    exact ⟨_, h1, q _ σ F H rp (Same.refl _) (by rw [hr]; exact ⟨p, rfl, h2, h3, o⟩)⟩
  · exact q.elim
/-- an expression whose value is dropped -/
def mDrop (ma : Env → R PyData) (ρ : Env) : R Fl := (ma ρ).bind fun _ => .ok (.nx ρ)
theorem s_expr (ha : PE X a (tM C .b ma)) (hs : swapsWith a none pos.line X.env = pure false := by rfl) : PS X (.Expr a pos) (tS C (mDrop ma)) := (ps_expr ha hs).imp fun D σ H ⟨ρ, F, rp, q⟩ => by
  unfold mDrop at q
  rw [okR_bind] at q
  exact ⟨ρ, F, rp, okR_mono q fun d _ q v F' H' e1 hd => q σ F' H' (rp.on e1) e1.fr⟩

/-! ### a name is given a value -/
def slotOf : Md → PyData → Sl
  | .f, d => .fr d
  | .o, d => .ow d
  | .b, _ => .un
  | .s, d => .bo d
def mSet (i : Nat) (M : Md) (ma : Env → R PyData) (ρ : Env) : R Fl := (ma ρ).bind fun d => .ok (.nx (ρ.set i (slotOf M d)))
theorem Rep.asg (rp : Rep C.toCb ρ σ F H) {i : Nat} (hp : ∀ p ∈ C.pin, p.1 ≠ i) (e1 : Ext F H F' H') (hd : Hd C M H F' H' v d) : Rep C.toCb (ρ.set i (slotOf M d)) (σ.set i (some v)) F' H' := by
  refine (rp.on e1).set hp ?_ fun d' e a ev j dj hne hj sj => ?_
  · cases M with
    | f => exact ⟨v, rfl, hd⟩
    | b => trivial
    | s => exact ⟨v, rfl, hd⟩
    | o =>
      obtain ⟨p, rfl, n1, n2, o⟩ := hd
      exact ⟨p, rfl, rp.ext.all.free n1, n2, o⟩
  · cases M with
    | f => cases e
    | b => cases e
    | s => cases e
    | o =>
      obtain ⟨p, rfl, n1, n2, o⟩ := hd
      cases ev
      obtain ⟨p', h1, _, _, o'⟩ := rp.slot j _ hj
      rw [h1] at sj
      cases sj
      obtain ⟨u, hu⟩ := o'.some
      rw [n1] at hu; cases hu
theorem tAsg_of {i : Nat} {te : TE} (hp : ∀ p ∈ C.pin, p.1 ≠ i) (h : ∀ Q, tM C M ma σ H Q → te σ H Q) (q : tS C (mSet i M ma) D σ H) : tAsg te (gName i) D σ H := by
  obtain ⟨ρ, F, rp, q⟩ := q
  unfold mSet at q
  rw [okR_bind] at q
  exact h _ ⟨ρ, F, rp, okR_mono q fun d _ q v F' H' e1 hd => q _ F' H' (rp.asg hp e1 hd) e1.fr⟩
theorem s_set (i : Nat) {x : Str} {pos' : Pos} (hN : X.N.Nodup) (hp : ∀ p ∈ C.pin, p.1 ≠ i) (ha : PE X a (tM C M ma)) (hi : X.N[i]? = some x := by rfl) (hx : Loc X.env.scope x := by first | exact Or.inl rfl | exact Or.inr rfl)
    (hs : swapsWith a (some (.Name x pos')) pos.line X.env = pure false := by rfl) (hf : X.fn x = true ∨ X.env.scope.names.lookup x = some .local := by first | exact .inl rfl | exact .inr rfl) : PS X (.Assign [.Name x pos'] a pos) (tS C (mSet i M ma)) :=
  (ps_set hN hi hx ha hs hf).imp fun D σ H q => tAsg_of hp (fun _ q => q) q
/-- a slot of one's own is frozen ahead of a statement -/
def frzE (i : Nat) (ρ : Env) : Env := match ρ[i]? with
  | some (.ow d) => ρ.set i (.fr d)
  | _ => ρ
def mFrz (i : Nat) (m : Env → R Fl) (ρ : Env) : R Fl := m (frzE i ρ)
theorem Rep.frz (rp : Rep C.toCb ρ σ F H) (i : Nat) : ∃ F', Rep C.toCb (frzE i ρ) σ F' H ∧ Same F F' := by
  unfold frzE
  split
  · rename_i d e
    obtain ⟨p, h1, h2, h3, o⟩ := rp.slot i _ e
    obtain ⟨u, hu, is, s1, s2⟩ := o.frz h3 rp.sub
    refine ⟨upd F p u, ?_, s1⟩
    have rp' : Rep C.toCb (ρ.set i (.fr d)) σ F H → True := fun _ => trivial
    refine ⟨⟨rp.ext.fr.trans s1, rp.ext.all, s2, fun q x ex => ?_⟩, by rw [List.length_set]; exact rp.len, fun j s hs => ?_, fun j k q dj dk hj hk sj sk => ?_, rp.pin⟩
    · by_cases hq : q = p
      · subst hq; exact .inr h2
      · rw [upd_ne hq] at ex; exact rp.ext.new q x ex
    · rcases set_get hs with ⟨rfl, rfl, hl⟩ | ⟨hne, hs⟩
      · exact ⟨_, h1, is⟩
      · have q := rp.slot j s hs
        cases s with
        | un => trivial
        | fr d => obtain ⟨v, q1, q2⟩ := q; exact ⟨v, q1, q2.mono s1⟩
        | ow d' =>
          obtain ⟨p', q1, q2, q3, q4⟩ := q
          have hpp : p' ≠ p := fun z => by
            subst z
            exact hne (rp.apart j i p' d' d hs e q1 h1)
          exact ⟨p', q1, q2, by rw [upd_ne hpp]; exact q3, q4.mono s1 (Same.refl _)⟩
        | bo d => obtain ⟨v, q1, q2⟩ := q; exact ⟨v, q1, q2.mono s1 (Same.refl _)⟩
    · have key : ∀ {j : Nat} {dj : PyData}, (ρ.set i (.fr d))[j]? = some (.ow dj) → ρ[j]? = some (.ow dj) := fun {j dj} hj => by
        rcases set_get hj with ⟨_, z, _⟩ | ⟨_, hj⟩
        · cases z
        · exact hj
      exact rp.apart j k q dj dk (key hj) (key hk) sj sk
  · exact ⟨F, rp, Same.refl _⟩
theorem s_frz (i : Nat) (h : PS X st (tS C m)) : PS X st (tS C (mFrz i m)) := h.imp fun D σ H ⟨ρ, F, rp, q⟩ => by
  obtain ⟨F', rp', s⟩ := rp.frz i
  exact ⟨_, F', rp', okR_mono q fun fl _ q => q.on s⟩

/-! ### targets -/
/-- a target's slots vs; nothing else turns -/
def gD (C : Cc) (vs : List Nat) (mt : PyData → Env → R Env) : TG := fun v σ H Q => ∃ ρ F d, Rep C.toCb ρ σ F H ∧ Is C.toBs F v d ∧ OkR (mt d ρ) (fun ρ' => ∀ σ', Rep C.toCb ρ' σ' F H → wipe σ' vs = wipe σ vs → Q σ' H) C.wx
theorem _root_.L2.PG.imp {t t' : TG} (h : PG X a t) (w : ∀ v σ H Q, t' v σ H Q → t v σ H Q) : PG X a t' := ⟨fun pins s σ H v u Q I r q => h.run pins s σ H v u Q I r (w v σ H Q q)⟩
theorem wipe_set {x : Option V} {i : Nat} : ∀ {vs : List Nat} {σ : L2.St}, i ∈ vs → wipe (σ.set i x) vs = wipe σ vs
  | [], _, h => by cases h
  | j :: vs, σ, h => by
    show (wipe (σ.set i x) vs).set j none = (wipe σ vs).set j none
    by_cases hj : i ∈ vs
    · rw [wipe_set hj]
    · have e : i = j := by
        rcases List.mem_cons.mp h with e | e
        · exact e
        · exact absurd e hj
      subst e
      have key : ∀ (us : List Nat), i ∉ us → wipe (σ.set i x) us = (wipe σ us).set i x := by
        intro us
        induction us with
        | nil => intro _; rfl
        | cons k us ih =>
          intro hk
          have hk1 : i ≠ k := fun z => hk (by rw [z]; exact List.mem_cons_self)
          show (wipe (σ.set i x) us).set k none = ((wipe σ us).set k none).set i x
          rw [ih fun z => hk (List.mem_cons_of_mem _ z), List.set_comm _ _ hk1]
      rw [key vs hj, List.set_set]
def mtName (i : Nat) (d : PyData) (ρ : Env) : R Env := .ok (ρ.set i (.fr d))
theorem g_name (i : Nat) {vs : List Nat} {x : Str} (hN : X.N.Nodup) (hp : ∀ p ∈ C.pin, p.1 ≠ i) (hi : X.N[i]? = some x := by rfl) (hx : Loc X.env.scope x := by first | exact Or.inl rfl | exact Or.inr rfl)
    (hf : X.fn x = true ∨ X.env.scope.names.lookup x = some .local := by first | exact .inl rfl | exact .inr rfl) (hv : i ∈ vs := by decide) : PG X (.Name x pos) (gD C vs (mtName i)) :=
  (pg_name hN hi hx hf).imp fun v σ H Q ⟨ρ, F, d, rp, is, q⟩ => q _ (rp.asg (M := .f) hp (Ext.refl rp.sub) is) (wipe_set hv)
/-- a tuple of names -/
def gsD (C : Cc) (vs : List Nat) (mt : List PyData → Env → R Env) : TGs := fun us σ H Q => ∃ ρ F ds, Rep C.toCb ρ σ F H ∧ IsAll C.toBs F us ds ∧ OkR (mt ds ρ) (fun ρ' => ∀ σ', Rep C.toCb ρ' σ' F H → wipe σ' vs = wipe σ vs → Q σ' H) C.wx
def mtNil (ds : List PyData) (ρ : Env) : R Env := match ds with
  | [] => .ok ρ
  | _ :: _ => .st
def mtCons (t : PyData → Env → R Env) (r : List PyData → Env → R Env) (ds : List PyData) (ρ : Env) : R Env := match ds with
  | [] => .st
  | d :: ds => (t d ρ).bind fun ρ' => r ds ρ'
theorem _root_.L2.PGs.imp {es : List Expr} {t t' : TGs} (h : PGs X es t) (w : ∀ v σ H Q, t' v σ H Q → t v σ H Q) : PGs X es t' := ⟨fun pins s σ H v u Q I r q => h.run pins s σ H v u Q I r (w v σ H Q q)⟩
theorem gs_nil {vs : List Nat} : PGs X [] (gsD C vs mtNil) := pgs_nil.imp fun us σ H Q ⟨ρ, F, ds, rp, is, q⟩ => by
  cases is with
  | nil => exact ⟨rfl, q σ rp rfl⟩
  | cons h r => exact q.elim
theorem gs_cons {e : Expr} {es : List Expr} {vs : List Nat} {t : PyData → Env → R Env} {r : List PyData → Env → R Env} (h1 : PG X e (gD C vs t)) (h2 : PGs X es (gsD C vs r))
    (hs : (assignEach (e :: es) X.env).map (·.2) = assign e X.env :: (assignEach es X.env).map (·.2) := by rfl) : PGs X (e :: es) (gsD C vs (mtCons t r)) := (pgs_cons h1 h2 hs).imp fun us σ H Q ⟨ρ, F, ds, rp, is, q⟩ => by
  cases is with
  | nil => exact q.elim
  | cons h rest =>
    simp only [mtCons] at q
    rw [okR_bind] at q
    exact ⟨_, _, rfl, ρ, F, _, rp, h, okR_mono q fun ρ' _ q σ' rp' hw => ⟨ρ', F, _, rp', rest, okR_mono q fun ρ2 _ q σ2 rp2 hw2 => q σ2 rp2 (hw2.trans hw)⟩⟩
def mtTup (n : Nat) (mt : List PyData → Env → R Env) (d : PyData) (ρ : Env) : R Env := match d with
  | .tuple ds => if ds.length = n then mt ds ρ else .st
  | _ => .st
theorem g_tup {es : List Expr} {k n : Nat} {vs : List Nat} {mt : List PyData → Env → R Env} (hB : On C X) (hc : X.calm = true) (h : PGs X es (gsD C vs mt))
    (hn : (assignEach es X.env).length = n := by rfl) (hst : (assignEach es X.env).findIdx? (·.1) = none := by rfl) : PG X (.Tuple es k pos) (gD C vs (mtTup n mt)) := (pg_tup hc h hn hst).imp fun v σ H Q ⟨ρ, F, d, rp, is, q⟩ => by
  unfold mtTup at q
  split at q
  · split at q
    · rename_i hl
      cases is with
      | tup h z i =>
        refine ⟨_, _, rfl, ?_, by rw [i.length]; exact hl, ρ, F, _, rp, i, q⟩
        rw [← hB.K]
        exact same_sqT rp.sub h
    · exact q.elim
  · exact q.elim
/-- target = e -/
def mAsg (mt : PyData → Env → R Env) (ma : Env → R PyData) (ρ : Env) : R Fl := (ma ρ).bind fun d => (mt d ρ).bind fun ρ' => .ok (.nx ρ')
theorem s_asg {tg : Expr} {vs : List Nat} {mt : PyData → Env → R Env} (ha : PE X a (tM C .f ma)) (hg : PG X tg (gD C vs mt)) (hs : swapsWithSole [tg] a pos.line X.env = pure false := by rfl) (hw : swappedStores [tg] a X.env = pure none := by rfl) (h1 : (assignEach [tg] X.env).map (·.2) = [assign tg X.env] := by rfl) :
    PS X (.Assign [tg] a pos) (tS C (mAsg mt ma)) := (ps_asg ha hg hs hw h1).imp fun D σ H ⟨ρ, F, rp, q⟩ => by
  unfold mAsg at q
  rw [okR_bind] at q
  refine ⟨ρ, F, rp, okR_mono q fun d _ q v F' H' e1 hd => ?_⟩
  rw [okR_bind] at q
  exact ⟨ρ, F', d, rp.on e1, hd, okR_mono q fun ρ' _ q σ' rp' _ => q σ' F' H' rp' e1.fr⟩

/-! ### what is walked -/
/-- J gives out the data ds as long as F1 and G stand -/
structure ItD (C : Cc) (J : It) (ds : List PyData) (F1 G : Hp) : Prop where
  turn : ∀ (i : Nat) (F H : Hp), i < ds.length → Ext C.F0 C.H0 F H → Same F1 F → Same G H → J.go i H ∧ ∀ x H', J.yld i H x H' → ∃ d F', ds[i]? = some d ∧ Ext F H F' H' ∧ Is C.toBs F' x d
  stop : ∀ (F H : Hp), Ext C.F0 C.H0 F H → Same F1 F → Same G H → J.stop ds.length H
/-- through the whole def (s) | as long as nothing is changed (b) -/
def gnd (C : Cc) (st : Bool) (H : Hp) : Hp := if st = true then C.H0 else H
def tI (C : Cc) (st : Bool) (mi : Env → R (List PyData)) : TI := fun σ H R => ∃ ρ F, Rep C.toCb ρ σ F H ∧ OkR (mi ρ) (fun ds => ds.length ≤ sizeLine → ∀ J F1 H1, Ext F H F1 H1 → ItD C J ds F1 (gnd C st H1) → R J H1) C.wx
theorem _root_.L2.PI.imp {tg e : Expr} {t t' : TI} (h : PI X tg e t) (w : ∀ σ H R, t' σ H R → t σ H R) : PI X tg e t' := ⟨fun pins s σ H R I q => h.run pins s σ H R I (w σ H R q)⟩
end
end Pv

/-! Pv, part 5: what is walked; for, while, comprehensions. -/
namespace Pv
open PySem PySem.Spec PyProof.Rows L2
section
variable {C : Cc} {X : Cx} {ρ : Env} {σ : L2.St} {F H F' H' : Hp} {v : V} {d : PyData} {M : Md} {a b c tg : Expr} {pos : Pos} {ma mb mc : Env → R PyData} {ta tb : Env → R Bool} {D : Ends} {st : Stmt} {rest sts sts' : List Stmt} {m n : Env → R Fl}

/-! ### sequences and texts -/
def iDyn (K : PySem.W.Frag) (te : TE) : TI := fun σ H R => te σ H fun v H1 => (∃ a xs, v = .ref a ∧ SqL K H1 a xs ∧ R (Itl K a) H1) ∨ (∃ a xs, v = .ref a ∧ SqT K H1 a xs ∧ R (Itt K a) H1) ∨ (∃ x, v = .str x ∧ R (Its x) H1)
theorem pi_dyn {te : TE} (he : PE X a te) : PI X tg a (iDyn X.K te) := by
  refine ⟨fun pins s σ H R I h => ?_⟩
  have key : ∀ {t : TE}, PE X a t → (wpAny (model X.prog X.w) X.A (eval a X.env) (fun v s1 => ∃ x H1, Inv X pins σ H1 s1 ∧ RelV x v ∧ ((∃ p xs, x = .ref p ∧ SqL X.K H1 p xs ∧ R (Itl X.K p) H1) ∨ (∃ p xs, x = .ref p ∧ SqT X.K H1 p xs ∧ R (Itt X.K p) H1) ∨ (∃ z, x = .str z ∧ R (Its z) H1))) X.xe s) →
      wpAny (model X.prog X.w) X.A (eval a X.env) (fun v s1 => wpAny (model X.prog X.w) X.A (pyIter v) (PIE X pins σ tg R) X.xe s1) X.xe s := fun {t} _ hh => by
    refine thn hh fun v s1 ⟨x, H1, I1, r1, q1⟩ => ?_
    rcases q1 with ⟨p, xs, rfl, hq, q⟩ | ⟨p, xs, rfl, hq, q⟩ | ⟨z, rfl, q⟩
    · cases r1
      obtain ⟨its, rv, pl, hz⟩ := I1.list hq
      refine wpAny_pyIter_list pl.isList ?_
      exact pi_one (tk := s1.toks) I1 _ (turn_list p _) ⟨_, Heap.get?_push_size _ rfl, rfl, rfl⟩ q
    · cases r1
      obtain ⟨its, rv, pl, hz⟩ := I1.tuple hq
      refine wpAny_pyIter_tuple (show s1.heap.IsTuple p its.toArray from pl) ?_
      exact pi_one (tk := s1.toks) I1 _ (turn_tuple p _) ⟨_, Heap.get?_push_size _ rfl, rfl, rfl⟩ q
    · obtain ⟨t, rfl⟩ := r1
      cases ha : z.cps.all (· < 128)
      · exact wpAny_pyIter_wide ha (pi_one (tk := s1.toks) I1 _ (turn_str _ z t "str_iterator" (.inr rfl)) ⟨_, Heap.get?_push_size _ rfl, rfl, rfl⟩ q)
      · exact wpAny_pyIter_ascii ha (pi_one (tk := s1.toks) I1 _ (turn_str _ z t "str_ascii_iterator" (.inl rfl)) ⟨_, Heap.get?_push_size _ rfl, rfl, rfl⟩ q)
  exact key he (he.run pins s σ H _ I h)
@[irreducible] def signsD (x : Str) : List PyData := x.cps.toList.map fun c => .str ⟨#[c]⟩
def gItems : PyData → R (List PyData)
  | .list xs => .ok xs
  | .tuple xs => .ok xs
  | .str x => if x.length ≤ sizeLine then .ok (signsD x) else .st
  | _ => .st
def mItems (ma : Env → R PyData) (ρ : Env) : R (List PyData) := (ma ρ).bind gItems
theorem itD_list {G : Hp} {p : Addr} {xs : List V} {ds : List PyData} (hG : ∀ F H, Same F' F → Same G H → Same F H → SqL C.K H p xs) (i : IsAll C.toBs F' xs ds) : ItD C (Itl C.K p) ds F' G where
  turn := fun k F H hk e0 sF sG => by
    have l := hG F H sF sG e0.sub
    have hk' : k < xs.length := by rw [i.length]; exact hk
    refine ⟨⟨xs, xs[k], l, List.getElem?_eq_getElem hk'⟩, fun x H' hy => ?_⟩
    obtain ⟨rfl, hy⟩ := hy
    obtain ⟨d, hd, is⟩ := i.get (hy xs l)
    exact ⟨d, F, hd, Ext.refl e0.sub, is.mono sF⟩
  stop := fun F H e0 sF sG => ⟨xs, hG F H sF sG e0.sub, Nat.le_of_eq i.length⟩
theorem itD_tup {G : Hp} {p : Addr} {xs : List V} {ds : List PyData} (h : SqT C.K F' p xs) (i : IsAll C.toBs F' xs ds) : ItD C (Itt C.K p) ds F' G where
  turn := fun k F H hk e0 sF sG => by
    have l := same_sqT (sF.trans e0.sub) h
    have hk' : k < xs.length := by rw [i.length]; exact hk
    refine ⟨⟨xs, xs[k], l, List.getElem?_eq_getElem hk'⟩, fun x H' hy => ?_⟩
    obtain ⟨rfl, hy⟩ := hy
    obtain ⟨d, hd, is⟩ := i.get (hy xs l)
    exact ⟨d, F, hd, Ext.refl e0.sub, is.mono sF⟩
  stop := fun F H e0 sF sG => ⟨xs, same_sqT (sF.trans e0.sub) h, Nat.le_of_eq i.length⟩
theorem itD_str {G : Hp} {x : Str} : ItD C (Its x) (signsD x) F' G where
  turn := fun k F H hk e0 sF sG => by
    have hk' : k < x.cps.size := by simpa [signsD] using hk
    refine ⟨hk', fun v H' hy => ?_⟩
    obtain ⟨rfl, c, hc, rfl⟩ := hy
    refine ⟨.str ⟨#[c]⟩, F, ?_, Ext.refl e0.sub, .str _⟩
    unfold signsD
    rw [List.getElem?_map, Array.getElem?_toList, hc]
    rfl
  stop := fun F H e0 sF sG => by
    show x.cps.size ≤ (signsD x).length
    simp [signsD]
theorem i_seqS (hB : On C X) (ha : PE X a (tM C .s ma)) : PI X tg a (tI C true (mItems ma)) := (pi_dyn ha).imp fun σ H R ⟨ρ, F, rp, q⟩ => by
  unfold mItems at q
  rw [okR_bind] at q
  refine ⟨ρ, F, rp, okR_mono q fun d _ q v F1 H1 e1 hd => ?_⟩
  have hb : Bor C.toBs F1 C.H0 v d := hd
  have e01 := rp.ext.trans e1
  unfold gItems at q
  split at q
  · refine .inl ?_
    rcases hb with hb | ⟨p, rfl, hb⟩
    · cases hb with
      | lst h z i =>
        have key := q (by rw [← i.length]; exact z) (Itl C.K _) F1 H1 e1 (itD_list (fun F H sF _ sub => .of (sub _ _ (sF _ _ h))) i)
        exact ⟨_, _, rfl, .of (e01.sub _ _ h), by rw [← hB.K]; exact key⟩
    · cases hb with
      | lst h z i =>
        have key := q (by rw [← i.length]; exact z) (Itl C.K _) F1 H1 e1 (itD_list (fun F H _ sG _ => same_sqL sG h) i)
        exact ⟨_, _, rfl, by rw [← hB.K]; exact same_sqL e01.all h, by rw [← hB.K]; exact key⟩
  · refine .inr (.inl ?_)
    rcases hb with hb | ⟨p, rfl, hb⟩
    · cases hb with
      | tup h z i =>
        have key := q (by rw [← i.length]; exact z) (Itt C.K _) F1 H1 e1 (itD_tup h i)
        exact ⟨_, _, rfl, by rw [← hB.K]; exact same_sqT e01.sub h, by rw [← hB.K]; exact key⟩
    · cases hb
  · split at q
    · rename_i hl
      refine .inr (.inr ?_)
      cases hb.str
      exact ⟨_, rfl, q (by simpa [signsD, Str.length] using hl) (Its _) F1 H1 e1 itD_str⟩
    · exact q.elim
  · exact q.elim
theorem i_seqB (hB : On C X) (ha : PE X a (tM C .b ma)) : PI X tg a (tI C false (mItems ma)) := (pi_dyn ha).imp fun σ H R ⟨ρ, F, rp, q⟩ => by
  unfold mItems at q
  rw [okR_bind] at q
  refine ⟨ρ, F, rp, okR_mono q fun d _ q v F1 H1 e1 hd => ?_⟩
  have hb : Bor C.toBs F1 H1 v d := hd
  have e01 := rp.ext.trans e1
  unfold gItems at q
  split at q
  · obtain ⟨p, xs, rfl, l, z, i⟩ := hb.list e01.sub
    have key := q (by rw [← i.length]; exact z) (Itl C.K _) F1 H1 e1 (itD_list (fun F H _ sG _ => same_sqL sG l) i)
    exact .inl ⟨_, _, rfl, by rw [← hB.K]; exact l, by rw [← hB.K]; exact key⟩
  · rcases hb with hb | ⟨p, rfl, hb⟩
    · cases hb with
      | tup h z i =>
        have key := q (by rw [← i.length]; exact z) (Itt C.K _) F1 H1 e1 (itD_tup h i)
        exact .inr (.inl ⟨_, _, rfl, by rw [← hB.K]; exact same_sqT e01.sub h, by rw [← hB.K]; exact key⟩)
    · cases hb
  · split at q
    · rename_i hl
      refine .inr (.inr ?_)
      cases hb.str
      exact ⟨_, rfl, q (by simpa [signsD, Str.length] using hl) (Its _) F1 H1 e1 itD_str⟩
    · exact q.elim
  · exact q.elim
/-! ### ranges -/
def rgD (lo : Int) (n : Nat) : List PyData := (List.range n).map fun i => .int (lo + (i : Nat))
theorem rgD_get {lo : Int} {n i : Nat} (h : i < n) : (rgD lo n)[i]? = some (.int (lo + (i : Nat))) := by
  unfold rgD
  rw [List.getElem?_map, List.getElem?_range h]
  rfl
theorem rgD_len {lo : Int} {n : Nat} : (rgD lo n).length = n := by simp [rgD]
theorem itD_rng {G : Hp} {lo : Int} {n : Nat} : ItD C (Itr lo n) (rgD lo n) F' G where
  turn := fun k F H hk e0 sF sG => by
    rw [rgD_len] at hk
    refine ⟨hk, fun v H' hy => ?_⟩
    obtain ⟨rfl, rfl⟩ := hy
    exact ⟨_, F, rgD_get hk, Ext.refl e0.sub, .int _⟩
  stop := fun F H e0 sF sG => by
    show n ≤ _
    rw [rgD_len]
    exact Nat.le_refl _
def mRng1 (ma : Env → R PyData) (ρ : Env) : R (List PyData) := (ma ρ).bind fun d => match d with
  | .int j => if -16777216 ≤ j ∧ j ≤ 16777216 then .ok (rgD 0 j.toNat) else .st
  | _ => .st
def mRng2 (ma mb : Env → R PyData) (ρ : Env) : R (List PyData) := (ma ρ).bind fun d => (mb ρ).bind fun e => match d, e with
  | .int i, .int j => if -16777216 ≤ i ∧ i ≤ 16777216 ∧ -16777216 ≤ j ∧ j ≤ 16777216 ∧ j - i ≤ 16777216 then .ok (rgD i (j - i).toNat) else .st
  | _, _ => .st
theorem i_rng1 {sb : Bool} {p : Pos} (hm : X.mg "range" = none) (ha : PE X a (tM C .f ma)) (hg : Gl X "range" := by rfl) (hs : starEach [a] X.env = [(false, eval a X.env)] := by rfl) : PI X tg (.Call (.Name "range" p) [a] [] pos) (tI C sb (mRng1 ma)) :=
  (pi_range1 hg hm (a_f ha a_nil hs) hs).imp fun σ H R ⟨ρ, F, rp, q⟩ => by
    unfold mRng1 at q
    rw [okR_bind] at q
    refine ⟨ρ, F, rp, ?_⟩
    unfold mAll mAll
    rw [okR_bind]
    refine okR_mono q fun d _ q vs F1 H1 e1 h1 => ?_
    cases h1 with
    | f is r =>
      cases r
      split at q
      · split at q
        · rename_i hj
          cases is
          refine ⟨_, rfl, by omega, by omega, q (by rw [rgD_len, sizeLine_eq]; omega) _ F1 H1 e1 itD_rng⟩
        · exact q.elim
      · exact q.elim
theorem i_rng2 {sb : Bool} {p : Pos} (hm : X.mg "range" = none) (ha : PE X a (tM C .f ma)) (hb : PE X b (tM C .f mb)) (hg : Gl X "range" := by rfl) (hs : starEach [a, b] X.env = [(false, eval a X.env), (false, eval b X.env)] := by rfl)
    (hs2 : starEach [b] X.env = [(false, eval b X.env)] := by rfl) : PI X tg (.Call (.Name "range" p) [a, b] [] pos) (tI C sb (mRng2 ma mb)) :=
  (pi_range2 hg hm (a_f ha (a_f hb a_nil hs2) (by rw [hs, hs2])) hs hs2).imp fun σ H R ⟨ρ, F, rp, q⟩ => by
    unfold mRng2 at q
    rw [okR_bind] at q
    refine ⟨ρ, F, rp, ?_⟩
    unfold mAll mAll mAll
    rw [okR_bind]
    refine okR_mono q fun d _ q => ?_
    rw [okR_bind] at q ⊢
    rw [okR_bind]
    refine okR_mono q fun e _ q vs F1 H1 e1 h1 => ?_
    cases h1 with
    | f is r =>
      cases r with
      | f is2 r =>
        cases r
        split at q
        · split at q
          · rename_i hj
            cases is
            cases is2
            refine ⟨_, _, rfl, ⟨by omega, by omega, by omega, by omega⟩, q (by rw [rgD_len, sizeLine_eq]; omega) _ F1 H1 e1 itD_rng⟩
          · exact q.elim
        · exact q.elim

/-! ### for -/
def forD (mt : PyData → Env → R Env) (mb : Env → R Fl) : List PyData → Env → R Fl
  | [], ρ => .ok (.nx ρ)
  | d :: ds, ρ => (mt d ρ).bind fun ρ1 => (mb ρ1).bind fun fl => match fl with
    | .nx ρ2 => forD mt mb ds ρ2
    | .ct ρ2 => forD mt mb ds ρ2
    | .bk ρ2 => .ok (.nx ρ2)
    | .rt d ρ2 => .ok (.rt d ρ2)
def mFor (mi : Env → R (List PyData)) (mt : PyData → Env → R Env) (mb : Env → R Fl) (ρ : Env) : R Fl := (mi ρ).bind fun ds => forD mt mb ds ρ
theorem drop_at {α : Type} {l : List α} {i : Nat} {x : α} (h : l[i]? = some x) : l.drop i = x :: l.drop (i + 1) := by
  obtain ⟨hi, e⟩ := List.getElem?_eq_some_iff.mp h
  rw [List.drop_eq_getElem_cons hi, e]
theorem s_for {mi : Env → R (List PyData)} {vs : List Nat} {mt : PyData → Env → R Env} {mB : Env → R Fl} {body : List Stmt} {iter : Expr} (hp : PassesOwn (model X.prog X.w) X.A X.env X.xe) (hc : X.calm = true) (hi : PI X tg iter (tI C true mi))
    (hg : PG X tg (gD C vs mt)) (hb : PSs X body (tS C mB)) (hs : ∀ x, foldedSetIterable iter X.env x = pure x := by intro _; rfl) : PS X (.For tg iter body [] pos) (tS C (mFor mi mt mB)) := (ps_for hp hc hi hg hb hs).imp fun D σ H ⟨ρ, F, rp, q⟩ => by
  unfold mFor at q
  rw [okR_bind] at q
  refine ⟨ρ, F, rp, okR_mono q fun ds _ q hl J F1 H1 e1 it => ?_⟩
  refine ⟨fun i k σ' H' => k = ds.length - i ∧ i ≤ ds.length ∧ ∃ ρ' F', Rep C.toCb ρ' σ' F' H' ∧ Same F1 F' ∧ OkR (forD mt mB (ds.drop i) ρ') (FlOk C D F') C.wx,
    ⟨ds.length, rfl, Nat.zero_le _, ρ, F1, rp.on e1, Same.refl _, okR_mono q fun fl _ q => q.on e1.fr⟩, ?_⟩
  rintro i k σ' H' ⟨rfl, hik, ρ', F', rp', sF, q'⟩
  by_cases hi : i < ds.length
  · obtain ⟨go, turn⟩ := it.turn i F' H' hi rp'.ext sF rp'.ext.all
    refine .inr ⟨go, fun σ2 H2 => ∃ ρ2 F2, Rep C.toCb ρ2 σ2 F2 H2 ∧ Same F1 F2 ∧ OkR (forD mt mB (ds.drop (i + 1)) ρ2) (FlOk C D F2) C.wx, fun σ2 H2 hN => ?_, fun x H2 hy => ?_⟩
    · exact ⟨ds.length - (i + 1), by omega, rfl, hi, hN⟩
    · obtain ⟨d, F2, hd, e2, is⟩ := turn x H2 hy
      rw [drop_at hd] at q'
      unfold forD at q'
      rw [okR_bind] at q'
      refine ⟨ρ', F2, d, rp'.on e2, is, okR_mono q' fun ρ1 _ q' σ1 rp1 _ => ?_⟩
      rw [okR_bind] at q'
      have sF2 := sF.trans e2.fr
      refine ⟨ρ1, F2, rp1, okR_mono q' fun fl _ q' => ?_⟩
      cases fl with
      | nx ρ2 => exact fun σ3 F3 H3 r3 s3 => ⟨ρ2, F3, r3, sF2.trans s3, okR_mono q' fun fl _ q => q.on (e2.fr.trans s3)⟩
      | ct ρ2 => exact fun σ3 F3 H3 r3 s3 => ⟨ρ2, F3, r3, sF2.trans s3, okR_mono q' fun fl _ q => q.on (e2.fr.trans s3)⟩
      | bk ρ2 => exact fun σ3 F3 H3 r3 s3 => q' σ3 F3 H3 r3 (e2.fr.trans s3)
      | rt d ρ2 => exact fun v σ3 F3 H3 r3 s3 => q' v σ3 F3 H3 r3 (e2.fr.trans s3)
  · have hi' : i = ds.length := by omega
    subst hi'
    refine .inl ⟨it.stop F' H' rp'.ext sF rp'.ext.all, ?_⟩
    rw [List.drop_length] at q'
    exact q' σ' F' H' rp' (Same.refl _)

/-! ### while -/
def whileN (mc : Env → R Bool) (mb : Env → R Fl) : Nat → Env → R Fl
  | 0, _ => .st
  | n + 1, ρ => (mc ρ).bind fun k => if k = true then (mb ρ).bind fun fl => match fl with
    | .nx ρ2 => whileN mc mb n ρ2
    | .ct ρ2 => whileN mc mb n ρ2
    | .bk ρ2 => .ok (.nx ρ2)
    | .rt d ρ2 => .ok (.rt d ρ2)
    else .ok (.nx ρ)
open Classical in
noncomputable def mWhile (mc : Env → R Bool) (mb : Env → R Fl) (ρ : Env) : R Fl := if h : ∃ n, whileN mc mb n ρ ≠ .st then whileN mc mb h.choose ρ else .st
theorem bind_nst {α β : Type} {r : R α} {f g : α → R β} (h : r.bind f ≠ .st) (e : ∀ a, f a ≠ .st → g a = f a) : r.bind g = r.bind f := by
  cases r with
  | ok a => exact e a h
  | ex x => rfl
  | st => rfl
theorem whileN_more {mc : Env → R Bool} {mB : Env → R Fl} : ∀ (n : Nat) (ρ : Env), whileN mc mB n ρ ≠ .st → whileN mc mB (n + 1) ρ = whileN mc mB n ρ
  | 0, ρ, h => absurd rfl h
  | n + 1, ρ, h => by
    rw [whileN] at h
    rw [whileN, whileN]
    refine bind_nst h fun k hk => ?_
    cases k with
    | true =>
      rw [if_pos rfl] at hk
      rw [if_pos rfl, if_pos rfl]
      refine bind_nst hk fun fl hf => ?_
      cases fl with
      | nx ρ2 => exact whileN_more n ρ2 hf
      | ct ρ2 => exact whileN_more n ρ2 hf
      | bk ρ2 => rfl
      | rt d ρ2 => rfl
    | false => rfl
theorem whileN_le {mc : Env → R Bool} {mB : Env → R Fl} {n m : Nat} {ρ : Env} (h : whileN mc mB n ρ ≠ .st) (hm : n ≤ m) : whileN mc mB m ρ = whileN mc mB n ρ := by
  obtain ⟨k, rfl⟩ := Nat.exists_eq_add_of_le hm
  clear hm
  induction k with
  | zero => rfl
  | succ k ih =>
    have e : whileN mc mB (n + k + 1) ρ = whileN mc mB (n + k) ρ := whileN_more (n + k) ρ (by rw [ih]; exact h)
    exact e.trans ih
theorem mWhile_eq {mc : Env → R Bool} {mB : Env → R Fl} {n : Nat} {ρ : Env} (h : whileN mc mB n ρ ≠ .st) : mWhile mc mB ρ = whileN mc mB n ρ := by
  have ex : ∃ n, whileN mc mB n ρ ≠ .st := ⟨n, h⟩
  unfold mWhile
  rw [dif_pos ex]
  rcases Nat.le_total n ex.choose with hl | hl
  · exact whileN_le h hl
  · exact (whileN_le ex.choose_spec hl).symm
theorem mWhile_some {mc : Env → R Bool} {mB : Env → R Fl} {ρ : Env} (h : mWhile mc mB ρ ≠ .st) : ∃ n, whileN mc mB n ρ = mWhile mc mB ρ := by
  unfold mWhile at h ⊢
  split at h
  · rename_i ex
    exact ⟨ex.choose, by rw [dif_pos ex]⟩
  · exact absurd rfl h
theorem s_while {mc : Env → R Bool} {mB : Env → R Fl} {body : List Stmt} (hp : PassesOwn (model X.prog X.w) X.A X.env X.xe) (hc : PT X c (tT C mc)) (hb : PSs X body (tS C mB)) : PS X (.While c body [] pos) (tS C (mWhile mc mB)) :=
  (ps_while hp hc hb).imp fun D σ H ⟨ρ, F, rp, q⟩ => by
    have hne : mWhile mc mB ρ ≠ .st := fun z => by rw [z] at q; exact q
    obtain ⟨n, hn⟩ := mWhile_some hne
    rw [← hn] at q
    refine ⟨fun k σ' H' => ∃ ρ' F', Rep C.toCb ρ' σ' F' H' ∧ Same F F' ∧ OkR (whileN mc mB k ρ') (FlOk C D F') C.wx, ⟨n, ρ, F, rp, Same.refl _, q⟩, ?_⟩
    rintro k σ' H' ⟨ρ', F', rp', sF, q'⟩
    cases k with
    | zero => exact q'.elim
    | succ k =>
      rw [whileN, okR_bind] at q'
      refine ⟨ρ', F', rp', okR_mono q' fun z _ q' F2 H2 e2 => ?_⟩
      cases z with
      | true =>
        rw [if_pos rfl] at q' ⊢
        rw [okR_bind] at q'
        refine ⟨fun σ3 H3 => ∃ ρ3 F3, Rep C.toCb ρ3 σ3 F3 H3 ∧ Same F F3 ∧ OkR (whileN mc mB k ρ3) (FlOk C D F3) C.wx, fun σ3 H3 h3 => ⟨k, Nat.lt_succ_self k, h3⟩, ρ', F2, rp'.on e2, okR_mono q' fun fl _ q' => ?_⟩
        have sF2 := sF.trans e2.fr
        cases fl with
        | nx ρ2 => exact fun σ3 F3 H3 r3 s3 => ⟨ρ2, F3, r3, sF2.trans s3, okR_mono q' fun fl _ q => q.on (e2.fr.trans s3)⟩
        | ct ρ2 => exact fun σ3 F3 H3 r3 s3 => ⟨ρ2, F3, r3, sF2.trans s3, okR_mono q' fun fl _ q => q.on (e2.fr.trans s3)⟩
        | bk ρ2 => exact fun σ3 F3 H3 r3 s3 => q' σ3 F3 H3 r3 (e2.fr.trans s3)
        | rt d ρ2 => exact fun v σ3 F3 H3 r3 s3 => q' v σ3 F3 H3 r3 (e2.fr.trans s3)
      | false =>
        rw [if_neg Bool.false_ne_true] at q' ⊢
        exact q' σ' F2 H2 (rp'.on e2) e2.fr

/-! ### comprehensions -/
def wipeE (ρ : Env) : List Nat → Env
  | [] => ρ
  | v :: vs => (wipeE ρ vs).set v .un
def compD (mt : PyData → Env → R Env) (mc : Env → R Bool) (me : Env → R PyData) (ρ : Env) : List PyData → R (List PyData)
  | [] => .ok []
  | d :: ds => (mt d ρ).bind fun ρ1 => (mc ρ1).bind fun k => if k = true then (me ρ1).bind fun y => (compD mt mc me ρ ds).bind fun ys => .ok (y :: ys) else compD mt mc me ρ ds
def mLc (vs : List Nat) (mi : Env → R (List PyData)) (mt : PyData → Env → R Env) (mc : Env → R Bool) (me : Env → R PyData) (ρ : Env) : R PyData := (mi ρ).bind fun ds => (compD mt mc me (wipeE ρ vs) ds).bind fun ys => .ok (.list ys)
theorem Rep.wipe (rp : Rep C.toCb ρ σ F H) (hp : ∀ p ∈ C.pin, ∀ i, i ∈ ([] : List Nat) → p.1 ≠ i) : ∀ {vs : List Nat}, (∀ i ∈ vs, ∀ p ∈ C.pin, p.1 ≠ i) → Rep C.toCb (wipeE ρ vs) (L2.wipe σ vs) F H
  | [], _ => rp
  | v :: vs, hv => by
    have r := Rep.wipe rp hp (vs := vs) fun i hi => hv i (List.mem_cons_of_mem _ hi)
    have hvp := hv v List.mem_cons_self
    refine ⟨r.ext, ?_, fun j s hs => ?_, fun j k a dj dk hj hk sj sk => ?_, fun p hp' => ?_⟩
    · show ((wipeE ρ vs).set v .un).length = ((L2.wipe σ vs).set v none).length
      rw [List.length_set, List.length_set]
      exact r.len
    · have hs : ((wipeE ρ vs).set v .un)[j]? = some s := hs
      show Sok C.toCb F H (((L2.wipe σ vs).set v none)[j]?) s
      rcases set_get hs with ⟨rfl, rfl, hl⟩ | ⟨hne, hs⟩
      · trivial
      · rw [List.getElem?_set_ne (Ne.symm hne)]
        exact r.slot j s hs
    · have key : ∀ {j : Nat} {dj : PyData}, ((wipeE ρ vs).set v .un)[j]? = some (.ow dj) → j ≠ v ∧ (wipeE ρ vs)[j]? = some (.ow dj) := fun {j dj} hj => by
        rcases set_get hj with ⟨_, z, _⟩ | ⟨hne, hj⟩
        · cases z
        · exact ⟨hne, hj⟩
      obtain ⟨n1, hj⟩ := key hj
      obtain ⟨n2, hk⟩ := key hk
      have sj : ((L2.wipe σ vs).set v none)[j]? = some (some (.ref a)) := sj
      have sk : ((L2.wipe σ vs).set v none)[k]? = some (some (.ref a)) := sk
      rw [List.getElem?_set_ne (Ne.symm n1)] at sj
      rw [List.getElem?_set_ne (Ne.symm n2)] at sk
      exact r.apart j k a dj dk hj hk sj sk
    · show ((L2.wipe σ vs).set v none)[p.1]? = _
      rw [List.getElem?_set_ne (Ne.symm (hvp p hp'))]
      exact r.pin p hp'
theorem wipe_twice (σ : L2.St) (vs : List Nat) : L2.wipe (L2.wipe σ vs) vs = L2.wipe σ vs := by
  have key : ∀ (us ws : List Nat), (∀ i ∈ us, i ∈ ws) → ∀ τ : L2.St, L2.wipe (L2.wipe τ us) ws = L2.wipe τ ws := by
    intro us
    induction us with
    | nil => intro ws _ τ; rfl
    | cons u us ih =>
      intro ws h τ
      show L2.wipe ((L2.wipe τ us).set u none) ws = _
      have e : ∀ {x : Option V} {i : Nat} {τ : L2.St}, i ∈ ws → L2.wipe (τ.set i none) ws = L2.wipe τ ws := by
        intro x i τ hi
        clear ih h
        induction ws generalizing τ with
        | nil => cases hi
        | cons w ws ihw =>
          show (L2.wipe (τ.set i none) ws).set w none = (L2.wipe τ ws).set w none
          by_cases hj : i ∈ ws
          · rw [ihw hj]
          · have ew : i = w := by
              rcases List.mem_cons.mp hi with e | e
              · exact e
              · exact absurd e hj
            subst ew
            have k2 : ∀ (zs : List Nat), i ∉ zs → L2.wipe (τ.set i none) zs = (L2.wipe τ zs).set i none := by
              intro zs
              induction zs with
              | nil => intro _; rfl
              | cons k zs ih2 =>
                intro hk
                have hk1 : i ≠ k := fun z => hk (by rw [z]; exact List.mem_cons_self)
                show (L2.wipe (τ.set i none) zs).set k none = ((L2.wipe τ zs).set k none).set i none
                rw [ih2 fun z => hk (List.mem_cons_of_mem _ z), List.set_comm _ _ hk1]
            rw [k2 ws hj, List.set_set]
      rw [e (x := none) (h u List.mem_cons_self)]
      exact ih ws (fun i hi => h i (List.mem_cons_of_mem _ hi)) τ
  exact key vs vs (fun _ h => h) σ
theorem tLc_of {mi : Env → R (List PyData)} {vs : List Nat} {mt : PyData → Env → R Env} {mcnd : Env → R Bool} {me : Env → R PyData} (hv : ∀ i ∈ vs, ∀ p ∈ C.pin, p.1 ≠ i) {Q : VK} (q : tM C .o (mLc vs mi mt mcnd me) σ H Q) :
    tLc (tI C false mi) (gD C vs mt) (tT C mcnd) (tM C .f me) vs σ H Q := by
  obtain ⟨ρ, F, rp, q⟩ := q
  unfold mLc at q
  rw [okR_bind] at q
  refine ⟨ρ, F, rp, okR_mono q fun ds _ q hl J F1 H1 e1 it N hN => ?_⟩
  rw [okR_bind] at q
  have rp1 := rp.on e1
  have rw1 : Rep C.toCb (wipeE ρ vs) (L2.wipe σ vs) F1 H1 := Rep.wipe rp1 (fun _ _ _ h => by cases h) hv
  have eN := Ext.push e1.sub (o := .lst []) hN
  refine ⟨fun i k H' => k = ds.length - i ∧ i ≤ ds.length ∧ ∃ F' acc done, Rep C.toCb (wipeE ρ vs) (L2.wipe σ vs) F' H' ∧ Ext F1 H1 F' H' ∧ F' N = none ∧ H' N = some (.lst acc) ∧ acc.length ≤ i ∧ IsAll C.toBs F' acc done ∧
      OkR (compD mt mcnd me (wipeE ρ vs) (ds.drop i)) (fun ys => Wd C .o F H Q (.list (done ++ ys))) C.wx,
    ⟨ds.length, rfl, Nat.zero_le _, F1, [], [], rw1.on eN, eN, e1.sub.free hN, upd_same, Nat.le_refl _, .nil, okR_mono q fun ys _ q => q⟩, ?_⟩
  rintro i k H' ⟨rfl, hik, F', acc, done, rp', e', fN, hN', hacc, iacc, q'⟩
  by_cases hi : i < ds.length
  · obtain ⟨go, turn⟩ := it.turn i F' H' hi rp'.ext e'.fr e'.all
    refine .inr ⟨go, fun H2 => ∃ F' acc done, Rep C.toCb (wipeE ρ vs) (L2.wipe σ vs) F' H2 ∧ Ext F1 H1 F' H2 ∧ F' N = none ∧ H2 N = some (.lst acc) ∧ acc.length ≤ i + 1 ∧ IsAll C.toBs F' acc done ∧
      OkR (compD mt mcnd me (wipeE ρ vs) (ds.drop (i + 1))) (fun ys => Wd C .o F H Q (.list (done ++ ys))) C.wx, fun H2 h2 => ⟨ds.length - (i + 1), by omega, rfl, hi, h2⟩, fun x H2 hy => ?_⟩
    obtain ⟨d, F2, hd, e2, is⟩ := turn x H2 hy
    rw [drop_at hd] at q'
    unfold compD at q'
    rw [okR_bind] at q'
    have rp2 := rp'.on e2
    refine ⟨_, F2, d, rp2, is, okR_mono q' fun ρ1 _ q' σ1 rp3 hw => ⟨by rw [hw, wipe_twice], ?_⟩⟩
    rw [okR_bind] at q'
    refine ⟨ρ1, F2, rp3, okR_mono q' fun k _ q' F3 H3 e3 => ?_⟩
    have e23 := e2.trans e3
    cases k with
    | true =>
      rw [if_pos rfl] at q'
      rw [okR_bind] at q'
      refine iteT ⟨ρ1, F3, rp3.on e3, okR_mono q' fun y _ q' u F4 H4 e4 h4 => ?_⟩
      have e24 := e23.trans e4
      have hN4 := e24.all _ _ hN'
      have fN4 := e24.none fN hN'
      have e14 := e'.trans e24
      rw [okR_bind] at q'
      refine ⟨acc, hN4, by omega, F4, acc ++ [u], done ++ [y], ?_, ?_, fN4, upd_same, by rw [List.length_append]; exact Nat.succ_le_succ hacc, (iacc.mono e24.fr).snoc h4, okR_mono q' fun ys _ q' => by rw [List.append_assoc]; exact q'⟩
      · refine rw1.on ?_
        exact ⟨e14.fr, same_updR e14.all hN, same_updR e14.sub fN4, e14.new⟩
      · exact ⟨e14.fr, same_updR e14.all hN, same_updR e14.sub fN4, e14.new⟩
    | false =>
      rw [if_neg Bool.false_ne_true] at q'
      have e13 := e'.trans e23
      exact iteF ⟨F3, acc, done, rw1.on e13, e13, e23.none fN hN', e23.all _ _ hN', Nat.le_succ_of_le hacc, iacc.mono e23.fr, q'⟩
  · have hi' : i = ds.length := by omega
    subst hi'
    refine .inl ⟨it.stop F' H' rp'.ext e'.fr e'.all, ?_⟩
    rw [List.drop_length] at q'
    have q' : Wd C .o F H Q (.list (done ++ [])) := q'
    rw [List.append_nil] at q'
    exact q' (.ref N) F' H' (e1.trans e') ⟨N, rfl, e1.all.free hN, fN, .lst hN' (Nat.le_trans hacc hl) iacc⟩
def mYes (_ρ : Env) : R Bool := .ok true
theorem ts_nil : PTs X [] (tT C mYes) := ⟨fun pins s σ H Q I ⟨ρ, F, rp, q⟩ => pts_nil.run pins s σ H Q I (q F H (Ext.refl rp.sub))⟩
theorem e_lc {elt iter : Expr} {ifs : List Expr} {scope : Scope} {mi : Env → R (List PyData)} {mt : PyData → Env → R Env} {mcnd : Env → R Bool} {me : Env → R PyData} (own : List (Str × Nat)) (hc : X.calm = true) (hN : X.N.Nodup) (hi : PI X tg iter (tI C false mi))
    (ok : BlkOk X.N X.env.scope scope own)
    (hg : ∀ (s : Shared) (H : Hp) (Ca : Addr) (cl : List (Str × Addr)) (fp : List Addr), PG (X.blk s H scope (compEnvC scope cl Ca X.env) fp) tg (gD C (own.map (·.2)) mt))
    (ht : ∀ (s : Shared) (H : Hp) (Ca : Addr) (cl : List (Str × Addr)) (fp : List Addr), PTs (X.blk s H scope (compEnvC scope cl Ca X.env) fp) ifs (tT C mcnd))
    (he : ∀ (s : Shared) (H : Hp) (Ca : Addr) (cl : List (Str × Addr)) (fp : List Addr), PE (X.blk s H scope (compEnvC scope cl Ca X.env) fp) elt (tM C .f me))
    (hv : ∀ i ∈ own.map (·.2), ∀ p ∈ C.pin, p.1 ≠ i) (hs : ∀ x, foldedSetIterable iter X.env x = pure x := by intro _; rfl) :
    PE X (.ListComp elt [⟨tg, iter, ifs, 0⟩] scope pos) (tM C .o (mLc (own.map (·.2)) mi mt mcnd me)) := (pe_lc hc hN hi ok hg ht he hs).imp fun _ _ _ q => tLc_of hv q
theorem s_setLc {elt iter : Expr} {ifs : List Expr} {scope : Scope} {mi : Env → R (List PyData)} {mt : PyData → Env → R Env} {mcnd : Env → R Bool} {me : Env → R PyData} (i : Nat) {y : Str} {py spos : Pos} (own : List (Str × Nat)) (fz : Bool) (hc : X.calm = true) (hN : X.N.Nodup)
    (hp : ∀ p ∈ C.pin, p.1 ≠ i) (hsw : swapsWith (.ListComp elt [⟨tg, iter, ifs, 0⟩] scope pos) (some (.Name y py)) spos.line X.env = pure true) (hi : PI X tg iter (tI C false mi))
    (ok : BlkOk X.N X.env.scope scope own)
    (hg : ∀ (s : Shared) (H : Hp) (Ca : Addr) (cl : List (Str × Addr)) (fp : List Addr), PG (X.blk s H scope (compEnvC scope cl Ca X.env) fp) tg (gD C (own.map (·.2)) mt))
    (ht : ∀ (s : Shared) (H : Hp) (Ca : Addr) (cl : List (Str × Addr)) (fp : List Addr), PTs (X.blk s H scope (compEnvC scope cl Ca X.env) fp) ifs (tT C mcnd))
    (he : ∀ (s : Shared) (H : Hp) (Ca : Addr) (cl : List (Str × Addr)) (fp : List Addr), PE (X.blk s H scope (compEnvC scope cl Ca X.env) fp) elt (tM C .f me))
    (hv : ∀ i ∈ own.map (·.2), ∀ p ∈ C.pin, p.1 ≠ i) (hy : X.N[i]? = some y := by rfl) (hyl : X.env.scope.names.lookup y = some .local := by rfl) (hs : ∀ x, foldedSetIterable iter X.env x = pure x := by intro _; rfl) :
    PS X (.Assign [.Name y py] (.ListComp elt [⟨tg, iter, ifs, 0⟩] scope pos) spos) (tS C (mSet i (if fz = true then .f else .o) (mLc (own.map (·.2)) mi mt mcnd me))) :=
  (ps_setLc hc hN hy hyl hsw hi ok hg ht he hs).imp fun D σ H q => by
    cases fz with
    | false => exact tAsg_of (M := .o) hp (fun _ q => tLc_of hv q) q
    | true =>
      refine tAsg_of (M := .f) hp (fun Q q => tLc_of hv ?_) q
      obtain ⟨ρ, F, r, q⟩ := q
      refine ⟨ρ, F, r, okR_mono q fun d _ w v F' H' e1 hd => ?_⟩
      obtain ⟨a, rfl, n1, n2, o⟩ := hd
      obtain ⟨u, hu, i, s1, s2⟩ := o.frz n2 e1.sub
      refine w (.ref a) (upd F' a u) H' ⟨e1.fr.trans s1, e1.all, s2, fun b x eb => ?_⟩ i
      by_cases hb : b = a
      · subst hb; exact .inr n1
      · rw [upd_ne hb] at eb; exact e1.new b x eb
end
end Pv

/-! Pv, part 6: lists of one's own that change; defs and their calls. -/
namespace Pv
open PySem PySem.Spec PyProof.Rows L2
section
variable {C : Cc} {X : Cx} {ρ : Env} {σ : L2.St} {F H F' H' : Hp} {v : V} {d : PyData} {M : Md} {a b c : Expr} {pos : Pos} {ma mb mc : Env → R PyData} {D : Ends}

/-! ### one's own object is written -/
theorem Rep.write {i : Nat} {p : Addr} {o : HO} {d0 d : PyData} (rp : Rep C.toCb ρ σ F H) (h : ρ[i]? = some (.ow d0)) (hs : σ[i]? = some (some (.ref p))) (own : Own C.toBs F (upd H p o) p d) : Rep C.toCb (ρ.set i (.ow d)) σ F (upd H p o) := by
  obtain ⟨p', h1, h2, h3, o4⟩ := rp.slot i _ h
  rw [hs] at h1
  cases h1
  have sH : ∀ {G : Hp}, Same G H → G p = none → Same G (upd H p o) := fun s n => same_updR s n
  refine ⟨⟨rp.ext.fr, sH rp.ext.all h2, sH rp.ext.sub h3, rp.ext.new⟩, by rw [List.length_set]; exact rp.len, fun j s hj => ?_, fun j k q dj dk hj hk sj sk => ?_, rp.pin⟩
  · rcases set_get hj with ⟨rfl, rfl, hl⟩ | ⟨hne, hj⟩
    · exact ⟨p, hs, h2, h3, own⟩
    · have q := rp.slot j s hj
      cases s with
      | un => trivial
      | fr d => exact q
      | bo d => exact q
      | ow d' =>
        obtain ⟨p', q1, q2, q3, q4⟩ := q
        have hne2 : p' ≠ p := fun z => by
          subst z
          exact hne (rp.apart j i p' d' d0 hj h q1 hs)
        exact ⟨p', q1, q2, q3, q4.at (Same.refl _) fun o2 e => by rw [upd_ne hne2]; exact e⟩
  · have key : ∀ {j : Nat} {dj : PyData}, (ρ.set i (.ow d))[j]? = some (.ow dj) → ∃ dj', ρ[j]? = some (.ow dj') := fun {j dj} hj => by
      rcases set_get hj with ⟨rfl, _, _⟩ | ⟨_, hj⟩
      · exact ⟨_, h⟩
      · exact ⟨_, hj⟩
    obtain ⟨dj', hj⟩ := key hj
    obtain ⟨dk', hk⟩ := key hk
    exact rp.apart j k q dj' dk' hj hk sj sk
/-- the list in slot i -/
theorem Rep.lst {i : Nat} {ds : List PyData} (rp : Rep C.toCb ρ σ F H) (h : ρ[i]? = some (.ow (.list ds))) : ∃ p xs, σ[i]? = some (some (.ref p)) ∧ F p = none ∧ H p = some (.lst xs) ∧ xs.length ≤ sizeLine ∧ IsAll C.toBs F xs ds := by
  obtain ⟨p, h1, h2, h3, o⟩ := rp.slot i _ h
  cases o with
  | lst h z r => exact ⟨p, _, h1, h3, h, z, r⟩
def mApp (i : Nat) (ma : Env → R PyData) (ρ : Env) : R Fl := match ρ[i]? with
  | some (.ow (.list ds)) => (ma ρ).bind fun d => if ds.length < sizeLine then .ok (.nx (ρ.set i (.ow (.list (ds ++ [d]))))) else .st
  | _ => .st
section
variable {x : Str} {p1 ap cp : Pos}
theorem s_app (i : Nat) (ha : PE X a (tM C .f ma)) (hN : X.N[i]? = some x := by rfl) (hv : Vis X.env.scope x := by first | exact Or.inl rfl | exact Or.inr (Or.inl rfl) | exact Or.inr (Or.inr rfl)) (hd : (x == ("__debug__" : Str)) = false := by decide)
    (hcd : (x == ("__classdict__" : Str)) = false := by decide) (hbase : attributeBase (.Name x p1) "append" X.env (eval (.Name x p1) X.env) = eval (.Name x p1) X.env := by rfl)
    (hfew : ((backTo cp (starEach [a] X.env)).all (fun x => !x.1) && (backToKw cp (keywordEach [] X.env)).all (fun x => x.1.isSome) && decide ([a].length + ([] : List Keyword).length + (if ([] : List Keyword).isEmpty then 0 else 1) < 30)) = true := by rfl)
    (hline : (ap.endLine == cp.line) = true := by rfl) (hse : starEach [a] X.env = (false, eval a X.env) :: starEach [] X.env := by rfl) (hpl : (backTo cp (starEach [] X.env)).any (·.1) = false := by rfl)
    (hs : swapsWith (.Call (.Attribute (.Name x p1) "append" ap) [a] [] cp) none pos.line X.env = pure false := by rfl) : PS X (.Expr (.Call (.Attribute (.Name x p1) "append" ap) [a] [] cp) pos) (tS C (mApp i ma)) :=
  (ps_expr (pe_bm PySem.F.plainAttrs_list PySem.F.slot_list_append PySem.F.type_list_append mt_append (pv i hN hv hd hcd) (pa_cons ha pa_nil hse) hbase hfew hline hse hpl) hs).imp fun D σ H ⟨ρ, F, rp, q⟩ => by
    unfold mApp at q
    split at q
    · rename_i ds hi
      rw [okR_bind] at q
      obtain ⟨p, xs, hsl, fp, hp, z, i0⟩ := rp.lst hi
      refine ⟨.ref p, hsl, .inl ⟨rfl, _, .of hp⟩, ρ, F, rp, okR_mono q fun d _ q v F1 H1 e1 hd => ?_⟩
      split at q
      · rename_i hl
        have hp1 := e1.all _ _ hp
        refine ⟨p, xs, v, rfl, rfl, hp1, by rw [i0.length]; exact hl, q σ F1 _ ((rp.on e1).write hi hsl ?_) e1.fr⟩
        exact .lst upd_same (by rw [List.length_append, i0.length]; exact hl) ((i0.mono e1.fr).snoc hd)
      · exact q.elim
    · exact q.elim
def mExt (i : Nat) (ma : Env → R PyData) (ρ : Env) : R Fl := match ρ[i]? with
  | some (.ow (.list ds)) => (ma ρ).bind fun d => match d with
    | .list es => if ds.length + es.length ≤ sizeLine then .ok (.nx (ρ.set i (.ow (.list (ds ++ es))))) else .st
    | _ => .st
  | _ => .st
theorem s_ext (i : Nat) (ha : PE X a (tM C .f ma)) (hN : X.N[i]? = some x := by rfl) (hv : Vis X.env.scope x := by first | exact Or.inl rfl | exact Or.inr (Or.inl rfl) | exact Or.inr (Or.inr rfl)) (hd : (x == ("__debug__" : Str)) = false := by decide)
    (hcd : (x == ("__classdict__" : Str)) = false := by decide) (hbase : attributeBase (.Name x p1) "extend" X.env (eval (.Name x p1) X.env) = eval (.Name x p1) X.env := by rfl)
    (hfew : ((backTo cp (starEach [a] X.env)).all (fun x => !x.1) && (backToKw cp (keywordEach [] X.env)).all (fun x => x.1.isSome) && decide ([a].length + ([] : List Keyword).length + (if ([] : List Keyword).isEmpty then 0 else 1) < 30)) = true := by rfl)
    (hline : (ap.endLine == cp.line) = true := by rfl) (hse : starEach [a] X.env = (false, eval a X.env) :: starEach [] X.env := by rfl) (hpl : (backTo cp (starEach [] X.env)).any (·.1) = false := by rfl)
    (hs : swapsWith (.Call (.Attribute (.Name x p1) "extend" ap) [a] [] cp) none pos.line X.env = pure false := by rfl) : PS X (.Expr (.Call (.Attribute (.Name x p1) "extend" ap) [a] [] cp) pos) (tS C (mExt i ma)) :=
  (ps_expr (pe_bm PySem.F.plainAttrs_list PySem.F.slot_list_extend PySem.F.type_list_extend mt_extend (pv i hN hv hd hcd) (pa_cons ha pa_nil hse) hbase hfew hline hse hpl) hs).imp fun D σ H ⟨ρ, F, rp, q⟩ => by
    unfold mExt at q
    split at q
    · rename_i ds hi
      rw [okR_bind] at q
      obtain ⟨p, xs, hsl, fp, hp, z, i0⟩ := rp.lst hi
      refine ⟨.ref p, hsl, .inl ⟨rfl, _, .of hp⟩, ρ, F, rp, okR_mono q fun d _ q v F1 H1 e1 hd => ?_⟩
      have hd : Is C.toBs F1 v d := hd
      split at q
      · split at q
        · rename_i hl
          have hp1 := e1.all _ _ hp
          cases hd with
          | lst hb zb ib =>
            refine ⟨p, _, xs, _, rfl, rfl, hp1, e1.sub _ _ hb, by rw [i0.length, ib.length]; exact hl, q σ F1 _ ((rp.on e1).write hi hsl ?_) e1.fr⟩
            exact .lst upd_same (by rw [List.length_append, i0.length, ib.length]; exact hl) ((i0.mono e1.fr).append ib)
        · exact q.elim
      · exact q.elim
    · exact q.elim
end
theorem isAll_insert {B : Bs} {vs : List V} {ds : List PyData} {v : V} {d : PyData} (h : IsAll B F vs ds) (r : Is B F v d) (k : Nat) : IsAll B F (vs.take k ++ v :: vs.drop k) (ds.take k ++ d :: ds.drop k) := (h.take k).append (.cons r (h.drop k))
def mIns (i : Nat) (ma mb : Env → R PyData) (ρ : Env) : R Fl := match ρ[i]? with
  | some (.ow (.list ds)) => (ma ρ).bind fun d => (mb ρ).bind fun e => match d with
    | .int k => if ds.length < sizeLine ∧ 0 ≤ k ∧ k ≤ ds.length then .ok (.nx (ρ.set i (.ow (.list (ds.take k.toNat ++ e :: ds.drop k.toNat))))) else .st
    | _ => .st
  | _ => .st

/-! ### defs -/
def initE (n : Nat) (Ms : List Bool) (ds : List PyData) : Env := (List.zipWith (fun (m : Bool) d => if m = true then Sl.fr d else Sl.bo d) Ms ds) ++ List.replicate (n - ds.length) .un
def endD (r : R Fl) : R PyData := r.bind fun fl => match fl with
  | .rt d _ => .ok d
  | .nx _ => .ok .none
  | _ => .st
def runD (n : Nat) (Ms : List Bool) (m : Env → R Fl) (ds : List PyData) : R PyData := endD (m (initE n Ms ds))
/-- called with such arguments it hands back the datum that g tells; nothing that stood is changed -/
def spD (B : Bs) (nm : Str → Option Addr) (Ms : List Bool) (g : List PyData → R PyData) : Sp := fun vs H Q E => ∃ F ds, Same F H ∧ HdL B F H Ms vs ds ∧
  OkR (g ds) (fun d => ∀ v F' H', Ext F H F' H' → Is B F' v d → Q v H') (fun x => ∀ F' H' cls dd, Ext F H F' H' → ExIs B x cls dd F' H' nm → E cls dd H')
theorem HdL.len {B : Bs} {Ms : List Bool} {vs : List V} {ds : List PyData} (h : HdL B F H Ms vs ds) : vs.length = Ms.length ∧ ds.length = Ms.length := by
  induction h with
  | nil => exact ⟨rfl, rfl⟩
  | f _ _ ih => exact ⟨congrArg (· + 1) ih.1, congrArg (· + 1) ih.2⟩
  | b _ _ ih => exact ⟨congrArg (· + 1) ih.1, congrArg (· + 1) ih.2⟩
theorem start_slot {C : Cc} {Ms : List Bool} {vs : List V} {ds : List PyData} (h : HdL C.toBs F H Ms vs ds) (hH : C.H0 = H) : ∀ (n : Nat) (i : Nat) (s : Sl),
    ((List.zipWith (fun (m : Bool) d => if m = true then Sl.fr d else Sl.bo d) Ms ds) ++ List.replicate n .un)[i]? = some s → Sok C.toCb F H ((vs.map some ++ List.replicate n none)[i]?) s ∧ ∀ d, s ≠ .ow d := by
  induction h with
  | nil =>
    intro n i s hs
    rw [List.zipWith_nil_left, List.nil_append, List.getElem?_replicate] at hs
    split at hs
    · cases hs
      exact ⟨trivial, fun d z => by cases z⟩
    · cases hs
  | f is _ ih =>
    intro n i s hs
    cases i with
    | zero =>
      have e : s = .fr _ := (Option.some.inj hs).symm
      subst e
      exact ⟨⟨_, rfl, is⟩, fun d z => by cases z⟩
    | succ i => exact ih n i s hs
  | b is _ ih =>
    intro n i s hs
    cases i with
    | zero =>
      have e : s = .bo _ := (Option.some.inj hs).symm
      subst e
      refine ⟨⟨_, rfl, ?_⟩, fun d z => by cases z⟩
      rw [hH]
      exact is
    | succ i => exact ih n i s hs
theorem rep_start {C : Cc} {Ms : List Bool} {vs : List V} {ds : List PyData} {N : List Str} (h : HdL C.toBs F H Ms vs ds) (sub : Same F H) (hF : C.F0 = F) (hH : C.H0 = H) (hp : C.pin = []) : Rep C.toCb (initE N.length Ms ds) (L2.start N vs) F H where
  ext := by rw [hF, hH]; exact Ext.refl sub
  len := by
    obtain ⟨h1, h2⟩ := h.len
    unfold initE L2.start
    rw [List.length_append, List.length_append, List.length_zipWith, List.length_replicate, List.length_replicate, List.length_map, h1, h2, Nat.min_self]
  slot := fun i s hs => by
    obtain ⟨h1, h2⟩ := h.len
    unfold initE at hs
    unfold L2.start
    rw [h1, ← h2]
    exact (start_slot h hH _ i s hs).1
  apart := fun i j q di dj hi _ _ _ => by
    obtain ⟨h1, h2⟩ := h.len
    exact absurd rfl ((start_slot h hH _ i _ hi).2 di)
  pin := fun p hp' => by rw [hp] at hp'; cases hp'
end
section
variable {P : Program} {w : World} {K : PySem.W.Frag} {mg : Str → Option Value} {base : Heap} {nm : Str → Option Addr}
/-- a def that is called by its name -/
structure Fn (P : Program) (w : World) (K : PySem.W.Frag) (mg : Str → Option Value) (base : Heap) (CX : CXT) (k : Nat) (x : Str) (sp : Sp) : Prop where
  ex : ∃ (f : Addr) (fd : FuncData) (ps : List Str), FnOk P w K mg base CX k f fd ps sp ∧ mg x = some (.ref f) ∧ PySem.W.keepIn K (.ref f) = true ∧ Binds K fd ps []
/-- a def of the text, where it stands -/
structure Df (K : PySem.W.Frag) (mg : Str → Option Value) (x : Str) (st : Stmt) (ps : List Str) : Prop where
  ex : ∃ (f : Addr) (fd : FuncData), Fun K x x st f fd ∧ mg x = some (.ref f) ∧ Binds K fd ps []
abbrev mkC (P : Program) (w : World) (K : PySem.W.Frag) (nm : Str → Option Addr) (F0 H : Hp) (E : XK) (ro : Bool := false) : Cc := ⟨⟨⟨P, w, K⟩, F0, H, E, []⟩, nm, ro⟩
theorem np0 {F0 H : Hp} {E : XK} {ro : Bool} {i : Nat} : ∀ p ∈ (mkC P w K nm F0 H E ro).pin, p.1 ≠ i := fun p h => nomatch h
theorem nv0 {F0 H : Hp} {E : XK} {ro : Bool} {is : List Nat} : ∀ i ∈ is, ∀ p ∈ (mkC P w K nm F0 H E ro).pin, p.1 ≠ i := fun _ _ p h => nomatch h
theorem on0 {X : Cx} {F0 H : Hp} {E : XK} {ro : Bool} (h1 : P = X.prog := by rfl) (h2 : w = X.w := by rfl) (h3 : K = X.K := by rfl) : On (mkC P w K nm F0 H E ro) X := ⟨h1, h2, h3⟩
theorem fn_d {x : Str} {st : Stmt} {N ps : List Str} {k : Nat} {Ms : List Bool} {m : Env → R Fl} (d : Df K mg x st ps) (S : FnScope N ps (defScope st)) (hl : Ms.length = ps.length)
    (body : ∀ (F0 H : Hp) (E : XK) (cdv : Value) (A : Around) (outer : List PySem.Env) (s : Shared) (f : Addr), Room k (cxOf CX0 P w K mg base N x (defScope st) f cdv A outer s H E).A →
      PSs (cxOf CX0 P w K mg base N x (defScope st) f cdv A outer s H E).nox (defBody st) (tS (mkC P w K nm F0 H E) m)) :
    Fn P w K mg base CX0 (k + 1) x (spD ⟨P, w, K⟩ nm Ms (runD N.length Ms m)) := by
  obtain ⟨f, fd, F, hm, b⟩ := d.ex
  refine ⟨f, fd, ps, F.ok S (fun vs H Q E h => ?_) (fun cdv A outer s H vs Q E hr h => ?_), hm, F.kp, b⟩
  · obtain ⟨F0, ds, _, h, _⟩ := h
    exact h.len.1.trans hl
  · obtain ⟨F0, ds, sub, hd, q⟩ := h
    refine ⟨tS (mkC P w K nm F0 H E) m, body F0 H E cdv A outer s f hr, initE N.length Ms ds, F0, rep_start (C := mkC P w K nm F0 H E) hd sub rfl rfl rfl, ?_⟩
    unfold runD endD at q
    rw [okR_bind] at q
    refine okR_mono2 q (fun fl _ q => ?_) fun xn _ q F' H' cls dd e => q F' H' cls dd e
    cases fl with
    | nx ρ => exact fun σ F' H' r s => q .non F' H' r.ext .non
    | rt d ρ => exact fun v σ F' H' r s is => q v F' H' r.ext (by rw [if_neg (show ¬ false = true by decide)] at is; exact is)
    | ct ρ => exact q.elim
    | bk ρ => exact q.elim
end
section
variable {P : Program} {w : World} {K : PySem.W.Frag} {mg : Str → Option Value} {base : Heap} {nm : Str → Option Addr}
/-- .. a new object of the caller's own -/
def spO (B : Bs) (nm : Str → Option Addr) (Ms : List Bool) (g : List PyData → R PyData) : Sp := fun vs H Q E => ∃ F ds, Same F H ∧ HdL B F H Ms vs ds ∧
  OkR (g ds) (fun d => ∀ a F' H', Ext F H F' H' → H a = none → F' a = none → Own B F' H' a d → Q (.ref a) H') (fun x => ∀ F' H' cls dd, Ext F H F' H' → ExIs B x cls dd F' H' nm → E cls dd H')
def endO (r : R Fl) : R PyData := r.bind fun fl => match fl with
  | .rt d _ => .ok d
  | _ => .st
def runO (n : Nat) (Ms : List Bool) (m : Env → R Fl) (ds : List PyData) : R PyData := endO (m (initE n Ms ds))
theorem fn_o {x : Str} {st : Stmt} {N ps : List Str} {k : Nat} {Ms : List Bool} {m : Env → R Fl} (d : Df K mg x st ps) (S : FnScope N ps (defScope st)) (hl : Ms.length = ps.length)
    (body : ∀ (F0 H : Hp) (E : XK) (cdv : Value) (A : Around) (outer : List PySem.Env) (s : Shared) (f : Addr), Room k (cxOf CX0 P w K mg base N x (defScope st) f cdv A outer s H E).A →
      PSs (cxOf CX0 P w K mg base N x (defScope st) f cdv A outer s H E).nox (defBody st) (tS (mkC P w K nm F0 H E true) m)) :
    Fn P w K mg base CX0 (k + 1) x (spO ⟨P, w, K⟩ nm Ms (runO N.length Ms m)) := by
  obtain ⟨f, fd, F, hm, b⟩ := d.ex
  refine ⟨f, fd, ps, F.ok S (fun vs H Q E h => ?_) (fun cdv A outer s H vs Q E hr h => ?_), hm, F.kp, b⟩
  · obtain ⟨F0, ds, _, h, _⟩ := h
    exact h.len.1.trans hl
  · obtain ⟨F0, ds, sub, hd, q⟩ := h
    refine ⟨tS (mkC P w K nm F0 H E true) m, body F0 H E cdv A outer s f hr, initE N.length Ms ds, F0, rep_start (C := mkC P w K nm F0 H E true) hd sub rfl rfl rfl, ?_⟩
    unfold runO endO at q
    rw [okR_bind] at q
    refine okR_mono2 q (fun fl _ q => ?_) fun xn _ q F' H' cls dd e => q F' H' cls dd e
    cases fl with
    | nx ρ => exact q.elim
    | rt d ρ =>
      intro v σ F' H' r s is
      rw [if_pos (show true = true from rfl)] at is
      obtain ⟨a, rfl, h1, h2, o⟩ := is
      exact q a F' H' r.ext h1 h2 o
    | ct ρ => exact q.elim
    | bk ρ => exact q.elim
end
section
variable {C : Cc} {X : Cx} {es : List Expr} {e : Expr} {ms : List (Env → R PyData)} {Ms : List Bool} {x : Str} {k j : Nat} {g : List PyData → R PyData} {p pos : Pos} {CX : CXT}
def mCall (g : List PyData → R PyData) (ms : List (Env → R PyData)) (ρ : Env) : R PyData := (mAll ms ρ).bind g
theorem e_call (c : Fn X.prog X.w X.K X.mg X.base CX k x (spD C.toBs C.nm Ms g)) (hr : Room j X.A) (hk : k ≤ j) (hx : Passes CX X C.E) (ha : PA X (e :: es) (tAs C Ms ms)) (hg : Gl X x := by rfl)
    (hdb : (x == ("__debug__" : Str)) = false := by decide) (he : starEach (e :: es) X.env = (false, eval e X.env) :: starEach es X.env := by rfl) (hpl : (backTo pos (starEach es X.env)).any (·.1) = false := by rfl) :
    PE X (.Call (.Name x p) (e :: es) [] pos) (tM C .f (mCall g ms)) := by
  obtain ⟨f, fd, ps, F, hm, kp, b⟩ := c.ex
  refine (pe_call F (hr.mono hk) hg hm kp b .nil hx ha hdb he hpl).imp fun σ H Q ⟨ρ, F, rp, q⟩ => ?_
  unfold mCall at q
  rw [okR_bind] at q
  refine ⟨ρ, F, rp, okR_mono q fun ds _ q vs F1 H1 e1 h1 => ?_⟩
  refine ⟨F1, ds, e1.sub, by rw [List.append_nil]; exact h1, okR_mono2 q (fun d _ w v F' H' e2 is => w v F' H' (e1.trans e2) is) fun xn _ wx F' H' cls dd e2 hx => wx F' H' cls dd ((rp.ext.trans e1).trans e2) hx⟩
theorem e_callO (c : Fn X.prog X.w X.K X.mg X.base CX k x (spO C.toBs C.nm Ms g)) (hr : Room j X.A) (hk : k ≤ j) (hx : Passes CX X C.E) (ha : PA X (e :: es) (tAs C Ms ms)) (hg : Gl X x := by rfl)
    (hdb : (x == ("__debug__" : Str)) = false := by decide) (he : starEach (e :: es) X.env = (false, eval e X.env) :: starEach es X.env := by rfl) (hpl : (backTo pos (starEach es X.env)).any (·.1) = false := by rfl) :
    PE X (.Call (.Name x p) (e :: es) [] pos) (tM C .o (mCall g ms)) := by
  obtain ⟨f, fd, ps, F, hm, kp, b⟩ := c.ex
  refine (pe_call F (hr.mono hk) hg hm kp b .nil hx ha hdb he hpl).imp fun σ H Q ⟨ρ, F, rp, q⟩ => ?_
  unfold mCall at q
  rw [okR_bind] at q
  refine ⟨ρ, F, rp, okR_mono q fun ds _ q vs F1 H1 e1 h1 => ?_⟩
  refine ⟨F1, ds, e1.sub, by rw [List.append_nil]; exact h1, okR_mono2 q (fun d _ w a F' H' e2 n1 n2 o => w _ F' H' (e1.trans e2) ⟨a, rfl, e1.all.free n1, n2, o⟩) fun xn _ wx F' H' cls dd e2 hx => wx F' H' cls dd ((rp.ext.trans e1).trans e2) hx⟩
end
end Pv

/-! Pv, part 7: more built-ins: insert, join, split, int, tuple * int, -n. -/
namespace Pv
open PySem PySem.Spec PyProof.Rows L2
section
variable {C : Cc} {X : Cx} {ρ : Env} {σ : L2.St} {F H F' H' : Hp} {v : V} {d : PyData} {M : Md} {a b c : Expr} {pos : Pos} {ma mb mc : Env → R PyData} {D : Ends}
section
variable {x : Str} {p1 ap cp : Pos}
theorem s_ins (i : Nat) (ha : PE X a (tM C .f ma)) (hb : PE X b (tM C .f mb)) (hN : X.N[i]? = some x := by rfl) (hv : Vis X.env.scope x := by first | exact Or.inl rfl | exact Or.inr (Or.inl rfl) | exact Or.inr (Or.inr rfl)) (hd : (x == ("__debug__" : Str)) = false := by decide)
    (hcd : (x == ("__classdict__" : Str)) = false := by decide) (hbase : attributeBase (.Name x p1) "insert" X.env (eval (.Name x p1) X.env) = eval (.Name x p1) X.env := by rfl)
    (hfew : ((backTo cp (starEach [a, b] X.env)).all (fun x => !x.1) && (backToKw cp (keywordEach [] X.env)).all (fun x => x.1.isSome) && decide ([a, b].length + ([] : List Keyword).length + (if ([] : List Keyword).isEmpty then 0 else 1) < 30)) = true := by rfl)
    (hline : (ap.endLine == cp.line) = true := by rfl) (hse : starEach [a, b] X.env = (false, eval a X.env) :: starEach [b] X.env := by rfl) (hse2 : starEach [b] X.env = (false, eval b X.env) :: starEach [] X.env := by rfl) (hpl : (backTo cp (starEach [b] X.env)).any (·.1) = false := by rfl)
    (hs : swapsWith (.Call (.Attribute (.Name x p1) "insert" ap) [a, b] [] cp) none pos.line X.env = pure false := by rfl) : PS X (.Expr (.Call (.Attribute (.Name x p1) "insert" ap) [a, b] [] cp) pos) (tS C (mIns i ma mb)) :=
  (ps_expr (pe_bm PySem.F.plainAttrs_list PySem.F.slot_list_insert PySem.F.type_list_insert mt_insert (pv i hN hv hd hcd) (pa_cons ha (pa_cons hb pa_nil hse2) hse) hbase hfew hline hse hpl) hs).imp fun D σ H ⟨ρ, F, rp, q⟩ => by
    unfold mIns at q
    split at q
    · rename_i ds hi
      rw [okR_bind] at q
      obtain ⟨p, xs, hsl, fp, hp, z, i0⟩ := rp.lst hi
      refine ⟨.ref p, hsl, .inl ⟨rfl, _, .of hp⟩, ρ, F, rp, okR_mono q fun d _ q v F1 H1 e1 hd => ?_⟩
      rw [okR_bind] at q
      refine ⟨ρ, F1, rp.on e1, okR_mono q fun e _ q u F2 H2 e2 he => ?_⟩
      have hd : Is C.toBs F1 v d := hd
      split at q
      · split at q
        · rename_i k hl
          have e12 := e1.trans e2
          have hp1 := e12.all _ _ hp
          cases hd
          have hlen := i0.length
          refine ⟨p, xs, _, u, rfl, rfl, hp1, by rw [hlen]; exact hl.1, hl.2.1, by have := hl.2.2; have := line63; omega, q σ F2 _ ((rp.on e12).write hi hsl ?_) e12.fr⟩
          refine .lst upd_same ?_ ?_
          · rw [List.length_append, List.length_append, List.length_take, List.length_drop]
            have := hl.1
            simp only [List.length_cons, List.length_nil]
            omega
          · rw [List.append_assoc]
            exact isAll_insert (i0.mono e12.fr) he _
        · exact q.elim
      · exact q.elim
    · exact q.elim
end
/-! ### sep.join(texts) -/
def strsOf : List PyData → Option (List Str)
  | [] => some []
  | .str b :: r => (strsOf r).map (b :: ·)
  | _ :: _ => none
theorem strs_is {B : Bs} : ∀ {vs : List V} {ds : List PyData} {bs : List Str}, IsAll B F vs ds → strsOf ds = some bs → vs = bs.map V.str
  | _, _, bs, .nil, e => by
    cases e; rfl
  | _, _, bs, .cons h r, e => by
    cases h with
    | str b =>
      unfold strsOf at e
      cases hx : strsOf _ with
      | none => rw [hx] at e; cases e
      | some cs =>
        rw [hx] at e
        cases e
        rw [strs_is r hx]
        rfl
    | _ => cases e
def gJoin (z : Str) (e : PyData) : R PyData := match e with
  | .list xs => match strsOf xs with
    | some ys => if (ys.map (·.length)).sum + ys.length * z.length ≤ 16777216 then .ok (.str (Txt.join z ys)) else .st
    | none => .st
  | _ => .st
theorem e_join {ap cp p2 : Pos} {z : Str} {j} (hB : On C X) (hb : PE X b (tM C .b mb)) (hs : starEach [b] X.env = [(false, eval b X.env)] := by rfl) (hbase : attributeBase (.Constant (.str z) j p2) "join" X.env (eval (.Constant (.str z) j p2) X.env) = eval (.Constant (.str z) j p2) X.env := by rfl)
    (hline : (ap.endLine == cp.line) = true := by rfl) : PE X (.Call (.Attribute (.Constant (.str z) j p2) "join" ap) [b] [] cp) (tM C .f (m1 (gJoin z) mb)) := (pe_join pe_str hb hs hbase hline).imp fun σ H Q ⟨ρ, F, rp, q⟩ => by
  unfold m1 at q
  rw [okR_bind] at q
  refine ⟨⟨z, rfl⟩, ρ, F, rp, okR_mono q fun e _ q u F2 H2 e12 h2 => ?_⟩
  have h2 : Bor C.toBs F2 H2 u e := h2
  unfold gJoin at q
  split at q
  · split at q
    · rename_i ys hy
      split at q
      · rename_i hl
        obtain ⟨p, xs, rfl, l, zz, i⟩ := h2.list e12.sub
        rw [strs_is i hy, hB.K] at l
        exact ⟨z, p, ys, rfl, rfl, .inl l, hl, q _ F2 H2 e12 (.str _)⟩
      · exact q.elim
    · exact q.elim
  · exact q.elim
/-! ### int(..), tuple * int, -n -/
def gInt : PyData → R PyData
  | .int i => .ok (.int i)
  | .bool b => .ok (.int (if b = true then 1 else 0))
  | _ => .st
abbrev rInt1 : List V → Hp → VK → Prop := fun xs H Q => (∃ i, xs = [.int i] ∧ Q (.int i) H) ∨ ∃ k : Bool, xs = [.bl k] ∧ Q (.int (if k then 1 else 0)) H
theorem sem_int : Sem1 C .f rInt1 gInt := by
  intro F H x d Q e0 h1 q
  unfold gInt at q
  split at q
  · cases h1.int
    exact .inl ⟨_, rfl, wd_int e0.sub q⟩
  · cases h1.bl
    exact .inr ⟨_, rfl, wd_int e0.sub q⟩
  · exact q.elim
def gRep (d e : PyData) : R PyData := match d, e with
  | .tuple xs, .int k => if xs ≠ [] ∧ 2 ≤ k ∧ k ≤ 1000 ∧ xs.length ≤ 1000 then .ok (.tuple (List.replicate k.toNat xs).flatten) else .st
  | d, e => gMul d e
theorem isAll_rep {B : Bs} {xs : List V} {ds : List PyData} (h : IsAll B F xs ds) : ∀ k : Nat, IsAll B F (List.replicate k xs).flatten (List.replicate k ds).flatten
  | 0 => .nil
  | k + 1 => by
    rw [List.replicate_succ, List.replicate_succ, List.flatten_cons, List.flatten_cons]
    exact h.append (isAll_rep h k)
theorem rep_len {k : Nat} {xs : List V} (hk : k ≤ 1000) (hx : xs.length ≤ 1000) : (List.replicate k xs).flatten.length ≤ sizeLine := by
  rw [PyProof.Rows.lm_len_rep_flat, sizeLine_eq]
  exact Nat.le_trans (Nat.mul_le_mul hk hx) (by decide)
abbrev rMulA (K : PySem.W.Frag) : R2 := rOr (rI CMul fun i j => .int (i * j)) (rRepT K)
theorem op_mulA : OpR X (binaryOp .Mult) (rMulA X.K) := opR_or op_mul op_repT
theorem sem_rep : Sem2 C .f (rMulA C.K) gRep := by
  intro F H x y d e Q e0 h1 h2 q
  unfold gRep at q
  split at q
  · split at q
    · rename_i c
      obtain ⟨a, xs, rfl, l1, z1, i1, j1⟩ := h1.tup e0.sub
      cases h2.int
      have hl := i1.length
      have hn : xs ≠ [] := fun z => by
        subst z
        exact c.1 (List.eq_nil_of_length_eq_zero hl.symm)
      refine .inr ⟨a, _, xs, rfl, rfl, l1, hn, c.2.1, c.2.2.1, by rw [hl]; exact c.2.2.2, fun p hp => ?_⟩
      exact q (.ref p) _ _ (Ext.frz e0.sub hp) (.tup (.of upd_same) (rep_len (by have := c.2.2.1; omega) (by rw [hl]; exact c.2.2.2)) ((isAll_rep i1 _).mono (same_updNew (e0.sub.free hp))))
    · exact q.elim
  · exact .inl (sem_mul F H x y d e Q e0 h1 h2 q)
def mNeg (ma : Env → R PyData) (ρ : Env) : R PyData := (ma ρ).bind fun d => match d with
  | .int i => .ok (.int (-i))
  | _ => .st
theorem e_neg (ha : PE X a (tM C .f ma)) : PE X (.UnaryOp .USub a pos) (tM C .f (mNeg ma)) := (pe_un un_neg ha).imp fun σ H Q ⟨ρ, F, rp, q⟩ => by
  unfold mNeg at q
  rw [okR_bind] at q
  refine ⟨ρ, F, rp, okR_mono q fun d _ q v F1 H1 e1 h1 => ?_⟩
  have h1 : Is C.toBs F1 v d := h1
  split at q
  · cases h1
    exact ⟨_, rfl, q _ F1 H1 e1 (.int _)⟩
  · exact q.elim
/-! ### in: texts and sequences -/
def gInS (d e : PyData) : R Bool := match e with
  | .str z => match d with
    | .str x => match x.cps.toList with
      | [c] => .ok (decide (c ∈ z.cps.toList))
      | _ => .st
    | _ => .st
  | .list xs => if (PyData.plain d && PyData.plainAll xs && decide (d.depth ≤ 60)) = true then .ok (xs.any fun y => PyData.eqv y d) else .st
  | .tuple xs => if (PyData.plain d && PyData.plainAll xs && decide (d.depth ≤ 60)) = true then .ok (xs.any fun y => PyData.eqv y d) else .st
  | _ => .st
def gNinS (d e : PyData) : R Bool := (gInS d e).bind fun b => .ok (!b)
def rInSeq (K : PySem.W.Frag) (neg : Bool) : R2 := fun x y H Q => ∃ d ds, Dp K H x d ∧ (Dp K H y (.list ds) ∨ Dp K H y (.tuple ds)) ∧ PyData.plain d = true ∧ PyData.plainAll ds = true ∧ d.depth ≤ 60 ∧
  Q (.bl (if neg then !(ds.any fun z => PyData.eqv z d) else ds.any fun z => PyData.eqv z d)) H
theorem op_inSeq (hu : X.A.units + 64 < cLine) : OpR X (compareOp .In) (rInSeq X.K false) := by
  intro pins s σ H x y v u Q I rx ry h
  obtain ⟨d, ds, hd, he, pd, pds, dep, q⟩ := h
  obtain ⟨as, r1⟩ := Dp.reads I d x v hd rx
  rcases he with he | he
  · obtain ⟨bs, r2⟩ := Dp.reads I (.list ds) y u he ry
    exact SeqAt.in_list_data r2 r1 pds pd (by omega) ⟨.bl _, H, I, rfl, q⟩
  · obtain ⟨bs, r2⟩ := Dp.reads I (.tuple ds) y u he ry
    exact SeqAt.in_tuple_data r2 r1 pds pd (by omega) ⟨.bl _, H, I, rfl, q⟩
theorem op_ninSeq (hu : X.A.units + 64 < cLine) : OpR X (compareOp .NotIn) (rInSeq X.K true) := by
  intro pins s σ H x y v u Q I rx ry h
  obtain ⟨d, ds, hd, he, pd, pds, dep, q⟩ := h
  obtain ⟨as, r1⟩ := Dp.reads I d x v hd rx
  rcases he with he | he
  · obtain ⟨bs, r2⟩ := Dp.reads I (.list ds) y u he ry
    exact SeqAt.notIn_list_data r2 r1 pds pd (by omega) ⟨.bl _, H, I, rfl, q⟩
  · obtain ⟨bs, r2⟩ := Dp.reads I (.tuple ds) y u he ry
    exact SeqAt.notIn_tuple_data r2 r1 pds pd (by omega) ⟨.bl _, H, I, rfl, q⟩
abbrev rSgn (neg : Bool) : R2 := fun x y H Q => ∃ (c : Nat) (z : Str), x = .str ⟨#[c]⟩ ∧ y = .str z ∧ Q (.bl (if neg then !decide (c ∈ z.cps.toList) else decide (c ∈ z.cps.toList))) H
theorem op_sgn : OpR X (compareOp .In) (rSgn false) := op_in_sign
theorem op_nsgn : OpR X (compareOp .NotIn) (rSgn true) := op_notIn_sign
theorem str_one {x : Str} {c : Nat} (h : x.cps.toList = [c]) : x = ⟨#[c]⟩ := Str.ext' (Array.toList_inj.mp (by rw [h]))
theorem sem_inS : Sem2 C .f (rOr (rSgn false) (rInSeq C.K false)) (boolD gInS) := by
  intro F H x y d e Q e0 h1 h2 q
  unfold boolD gInS at q
  split at q
  · split at q
    · split at q
      · rename_i c hc
        have hx := str_one hc
        subst hx
        cases h1.str
        cases h2.str
        exact .inl ⟨_, _, rfl, rfl, wd_bl e0.sub q⟩
      · exact q.elim
    · exact q.elim
  · split at q
    · rename_i c
      rw [Bool.and_eq_true, Bool.and_eq_true, decide_eq_true_eq] at c
      exact .inr ⟨d, _, h1.dp e0.sub c.1.1, .inl (h2.dp e0.sub (by rw [PyData.plain]; exact c.1.2)), c.1.1, c.1.2, c.2, wd_bl e0.sub q⟩
    · exact q.elim
  · split at q
    · rename_i c
      rw [Bool.and_eq_true, Bool.and_eq_true, decide_eq_true_eq] at c
      exact .inr ⟨d, _, h1.dp e0.sub c.1.1, .inr (h2.dp e0.sub (by rw [PyData.plain]; exact c.1.2)), c.1.1, c.1.2, c.2, wd_bl e0.sub q⟩
    · exact q.elim
  · exact q.elim
theorem sem_ninS : Sem2 C .f (rOr (rSgn true) (rInSeq C.K true)) (boolD gNinS) := by
  intro F H x y d e Q e0 h1 h2 q
  unfold boolD gNinS gInS at q
  split at q
  · split at q
    · split at q
      · rename_i c hc
        have hx := str_one hc
        subst hx
        cases h1.str
        cases h2.str
        exact .inl ⟨_, _, rfl, rfl, wd_bl e0.sub q⟩
      · exact q.elim
    · exact q.elim
  · split at q
    · rename_i c
      rw [Bool.and_eq_true, Bool.and_eq_true, decide_eq_true_eq] at c
      exact .inr ⟨d, _, h1.dp e0.sub c.1.1, .inl (h2.dp e0.sub (by rw [PyData.plain]; exact c.1.2)), c.1.1, c.1.2, c.2, wd_bl e0.sub q⟩
    · exact q.elim
  · split at q
    · rename_i c
      rw [Bool.and_eq_true, Bool.and_eq_true, decide_eq_true_eq] at c
      exact .inr ⟨d, _, h1.dp e0.sub c.1.1, .inr (h2.dp e0.sub (by rw [PyData.plain]; exact c.1.2)), c.1.1, c.1.2, c.2, wd_bl e0.sub q⟩
    · exact q.elim
  · exact q.elim
end
end Pv

/-! Pv, part 8: a law's end. -/
namespace Pv
open PySem PySem.Spec PyProof.Rows L2
section
variable {P : Program} {w : World} {K : PySem.W.Frag} {mg : Str → Option Value} {base h : Heap} {nm : Str → Option Addr}
theorem fn_at {x : Str} {st : Stmt} {N ps : List Str} {k : Nat} {Ms : List Bool} {m : Env → R Fl} {f : Addr} {fd : FuncData} (F : Fun K x x st f fd) (S : FnScope N ps (defScope st)) (hl : Ms.length = ps.length)
    (body : ∀ (F0 H : Hp) (E : XK) (cdv : Value) (A : Around) (outer : List PySem.Env) (s : Shared) (f : Addr), Room k (cxOf CX0 P w K mg base N x (defScope st) f cdv A outer s H E).A →
      PSs (cxOf CX0 P w K mg base N x (defScope st) f cdv A outer s H E).nox (defBody st) (tS (mkC P w K nm F0 H E) m)) :
    FnOk P w K mg base CX0 (k + 1) f fd ps (spD ⟨P, w, K⟩ nm Ms (runD N.length Ms m)) := by
  refine F.ok S (fun vs H Q E h => ?_) (fun cdv A outer s H vs Q E hr h => ?_)
  · obtain ⟨F0, ds, _, h, _⟩ := h
    exact h.len.1.trans hl
  · obtain ⟨F0, ds, sub, hd, q⟩ := h
    refine ⟨tS (mkC P w K nm F0 H E) m, body F0 H E cdv A outer s f hr, initE N.length Ms ds, F0, rep_start (C := mkC P w K nm F0 H E) hd sub rfl rfl rfl, ?_⟩
    unfold runD endD at q
    rw [okR_bind] at q
    refine okR_mono2 q (fun fl _ q => ?_) fun xn _ q F' H' cls dd e => q F' H' cls dd e
    cases fl with
    | nx ρ => exact fun σ F' H' r s => q .non F' H' r.ext .non
    | rt d ρ => exact fun v σ F' H' r s is => q v F' H' r.ext (by rw [if_neg (show ¬ false = true by decide)] at is; exact is)
    | ct ρ => exact q.elim
    | bk ρ => exact q.elim
theorem df_mk {x : Str} {st : Stmt} {ps : List Str} {f : Addr} {od an : Option Addr} {sl : Array (Option Value)} {oc kV dc pm cd ct : Value} (X : K.In h) (G : h.Ns mainGlobals mg) (a : PySem.W.nsIn K mainGlobals x = some (some (.ref f)))
    (l : K.lookup f = some ⟨oc, od, .func (PySem.W.fnOf x x (defArgs st) (defBody st) (defScope st) .none kV dc pm an cd ct), sl⟩) (c : PySem.W.codeIn K cd x = true) (k : PySem.W.keepIn K (.ref f) = true)
    (hb : ∀ (kV doc pm : Value) (an : Option Addr) (cdv ct : Value) (us : List Value), us.length = ps.length → bindArgs (PySem.W.fnOf x x (defArgs st) (defBody st) (defScope st) .none kV doc pm an cdv ct) ⟨us, []⟩ = pure (ps.zip us)) : Df K mg x st ps :=
  ⟨f, _, fun_mk (st := st) l c k, PySem.W.mg_of X G a, (fun_mk (st := st) l c k).binds hb⟩
theorem gs_mk {x y : Str} {t : Tok} (X : K.In h) (G : h.Ns mainGlobals mg) (a : PySem.W.nsIn K mainGlobals x = some (some (.str y t))) : ∃ u, mg x = some u ∧ RelV (.str y) u := ⟨_, PySem.W.mg_of X G a, t, rfl⟩
theorem gt_mk {x : Str} {f : Addr} {od : Option Addr} {vs : List Value} {n : Nat} {sl : Array (Option Value)} {ys : List Str} (X : K.In h) (G : h.Ns mainGlobals mg) (a : PySem.W.nsIn K mainGlobals x = some (some (.ref f)))
    (l : K.lookup f = some ⟨.type "tuple", od, .seq vs.toArray n, sl⟩) (hv : Vals (ys.map V.str) vs) (hl : ys.length ≤ 1000) : ∃ p, mg x = some (.ref p) ∧ ∀ (B : Bs) (F : Hp), B.K = K → Is B F (.ref p) (.tuple (ys.map .str)) := by
  have hle := hv.length
  rw [List.length_map] at hle
  refine ⟨f, PySem.W.mg_of X G a, fun B F e => .tup (.inr ⟨_, vs.toArray, n, by rw [e]; exact l, rfl, rfl, by rw [List.size_toArray, ← hle]; exact small_line hl, by simpa using hv⟩) (by rw [List.length_map]; exact small_line hl) ?_⟩
  clear hv l hle hl
  induction ys with
  | nil => exact .nil
  | cons y ys ih => exact .cons (.str y) ih
/-- the law's promise -/
def spL (K : PySem.W.Frag) : Sp := fun vs H Q _ => ∃ (a : Addr) (ns : List Int), vs = [.ref a] ∧ SqL K H a (ns.map V.int) ∧ ns.length ≤ 63 ∧ ∀ H', Q (.bl true) H'
theorem isAll_ints {B : Bs} {F : Hp} : ∀ ns : List Int, IsAll B F (ns.map V.int) (ns.map .int)
  | [] => .nil
  | n :: ns => .cons (.int n) (isAll_ints ns)
theorem law_end {k : Nat} {f : Addr} {fd : FuncData} {ps : List Str} {g : List PyData → R PyData} (G : FnOk P w K mg base CX0 k f fd ps (spD ⟨P, w, K⟩ nm [false] g))
    (h : ∀ ns : List Int, ns.length ≤ 63 → g [.list (ns.map .int)] = .ok (.bool true)) : FnOk P w K mg base CX0 k f fd ps (spL K) := G.imp fun vs H Q E ⟨a, ns, e, hS, hl, q⟩ => by
  subst e
  refine ⟨fun _ => none, [.list (ns.map .int)], (fun _ _ z => by cases z), .b (.inr ⟨a, rfl, .lst hS (by rw [List.length_map]; exact small_line (by omega)) (isAll_ints ns)⟩) .nil, okR_ok (h ns hl) fun v F' H' _ is => ?_⟩
  cases is
  exact q H'
end
end Pv

/-! Pv, part 9: dicts whose keys are whole numbers or texts. -/
namespace Pv
open PySem PySem.Spec PyProof.Rows L2
section
variable {B : Bs} {F H : Hp} {v : V} {es : List (PyData × PyData)} {kvs : List (Key × V)}
/-- the dict's keys are tuples -/
def isN : List (PyData × PyData) → Bool
  | (.none, _) :: _ => true
  | _ => false
def eKey : PyData → Option Key
  | .int i => some (.inl i)
  | .str x => some (.inr x)
  | _ => none
theorem eKey_some {d : PyData} {k : Key} (h : eKey d = some k) : d = keyD k := by
  cases d <;> first | (cases h; rfl) | cases h
theorem Bor.key {d : PyData} {k : Key} (o : Bor B F H v d) (h : eKey d = some k) : v = kV k := by
  rw [eKey_some h] at o
  cases k with
  | inl i => exact o.int
  | inr x => exact o.str
theorem Bor.dictK (o : Bor B F H v (.dict es)) (hn : isN es = false) (sub : Same F H) : ∃ a kvs, v = .ref a ∧ Rd H a (.dK kvs) ∧ IsKV B F kvs es := by
  rcases o with o | ⟨a, rfl, o⟩
  · cases o with
    | dK h r => exact ⟨_, _, rfl, same_rd sub h, r⟩
    | dN h r => cases hn
  · cases o with
    | dK h r => exact ⟨_, _, rfl, h, r⟩
    | dN h r => cases hn
def isKey (d : PyData) (k : Key) : Bool := decide (eKey d = some k)
def dLookK (es : List (PyData × PyData)) (k : Key) : Option PyData := (es.find? fun p => isKey p.1 k).map (·.2)
def dPutK (es : List (PyData × PyData)) (k : Key) (v : PyData) : List (PyData × PyData) :=
  if (es.any fun p => isKey p.1 k) = true then es.map (fun p => if isKey p.1 k = true then (p.1, v) else p) else es ++ [(keyD k, v)]
theorem isKey_keyD (k j : Key) : isKey (keyD k) j = decide (k = j) := by
  cases k <;> (unfold isKey keyD eKey; exact decide_eq_decide.mpr ⟨fun e => Option.some.inj e, fun e => congrArg some e⟩)
theorem IsKV.look : ∀ {kvs : List (Key × V)} {es : List (PyData × PyData)} (k : Key), IsKV B F kvs es → (∃ v d, valV kvs k = some v ∧ dLookK es k = some d ∧ Is B F v d) ∨ (valV kvs k = none ∧ dLookK es k = none)
  | _, _, k, .nil => .inr ⟨rfl, rfl⟩
  | _, _, k, .cons (k := k0) (v := v0) (r := r) (d := d0) (es := es) h t => by
    by_cases e : k0 = k
    · refine .inl ⟨v0, d0, valV_pos e, ?_, h⟩
      unfold dLookK
      rw [List.find?_cons, isKey_keyD, decide_eq_true e]; rfl
    · have e2 : dLookK ((keyD k0, d0) :: es) k = dLookK es k := by
        unfold dLookK
        rw [List.find?_cons, isKey_keyD, decide_eq_false e]
      rw [valV_neg (p := (k0, v0)) e, e2]
      exact IsKV.look k t
theorem IsKV.any : ∀ {kvs : List (Key × V)} {es : List (PyData × PyData)} (k : Key), IsKV B F kvs es → (kvs.any fun kv => decide (kv.1 = k)) = es.any fun p => isKey p.1 k
  | _, _, k, .nil => rfl
  | _, _, k, .cons h t => by
    rw [List.any_cons, List.any_cons, IsKV.any k t, isKey_keyD]
theorem IsKV.snoc : ∀ {kvs : List (Key × V)} {es : List (PyData × PyData)} {k : Key} {v : V} {d : PyData}, IsKV B F kvs es → Is B F v d → IsKV B F (kvs ++ [(k, v)]) (es ++ [(keyD k, d)])
  | _, _, _, _, _, .nil, h => .cons h .nil
  | _, _, _, _, _, .cons h0 t, h => .cons h0 (IsKV.snoc t h)
theorem IsKV.repl : ∀ {kvs : List (Key × V)} {es : List (PyData × PyData)} {k : Key} {v : V} {d : PyData}, IsKV B F kvs es → Is B F v d →
    IsKV B F (kvs.map fun kv => if kv.1 = k then (kv.1, v) else kv) (es.map fun p => if isKey p.1 k = true then (p.1, d) else p)
  | _, _, _, _, _, .nil, h => .nil
  | _, _, k, _, _, .cons (k := k0) h0 t, h => by
    have ih := IsKV.repl (k := k) t h
    rw [List.map_cons, List.map_cons]
    by_cases e : k0 = k
    · rw [if_pos e, if_pos (by rw [isKey_keyD]; exact decide_eq_true e)]; exact .cons h ih
    · rw [if_neg e, if_neg (by rw [isKey_keyD, decide_eq_false e]; decide)]; exact .cons h0 ih
theorem IsKV.put {k : Key} {d : PyData} (i : IsKV B F kvs es) (h : Is B F v d) : IsKV B F (putK kvs k v) (dPutK es k d) := by
  unfold putK dPutK
  rw [i.any k]
  split
  · exact i.repl h
  · exact i.snoc h
theorem isN_put {k : Key} {d : PyData} (h : isN es = false) : isN (dPutK es k d) = false := by
  unfold dPutK
  split
  · cases es with
    | nil => rfl
    | cons p r =>
      obtain ⟨p1, p2⟩ := p
      cases p1 <;> first | (simp only [List.map_cons]; split <;> rfl) | cases h
  · cases es with
    | nil => cases k <;> rfl
    | cons p r =>
      obtain ⟨p1, p2⟩ := p
      cases p1 <;> first | rfl | cases h
end
section
variable {C : Cc} {X : Cx} {ρ : Env} {σ : L2.St} {F H F' H' : Hp} {v : V} {d : PyData} {M : Md} {a b c : Expr} {pos : Pos} {ma mb mc : Env → R PyData} {D : Ends}
/-! ### d[k] -/
def gDget (d e : PyData) : R PyData := match d with
  | .dict es => if isN es = true then .st else match eKey e with
    | some k => match dLookK es k with
      | some x => .ok x
      | none => .st
    | none => .st
  | _ => .st
theorem e_dget (hB : On C X) (hu : X.A.units + 1 < cLine) (ha : PE X a (tM C .b ma)) (hb : PE X b (tM C .b mb)) (hs : NoSl b := by intro _ _; rfl) : PE X (.Subscript a b pos) (tM C .f (m2 gDget ma mb)) :=
  (pe_dget hu ha hb hs).imp fun σ H Q ⟨ρ, F, rp, q⟩ => by
    unfold m2 at q
    rw [okR_bind] at q
    refine ⟨ρ, F, rp, okR_mono q fun d _ q v F1 H1 e1 h1 => ?_⟩
    rw [okR_bind] at q
    refine ⟨ρ, F1, rp.on e1, okR_mono q fun e _ q u F2 H2 e2 h2 => ?_⟩
    have e12 := e1.trans e2
    have h1 : Bor C.toBs F2 H2 v d := Bor.mono e2.fr e2.all h1
    have h2 : Bor C.toBs F2 H2 u e := h2
    unfold gDget at q
    split at q
    · split at q
      · exact q.elim
      · rename_i es hn
        split at q
        · rename_i k hk
          obtain ⟨a, kvs, rfl, hr, i⟩ := h1.dictK (by simpa using hn) (rp.ext.trans e12).sub
          rcases i.look k with ⟨x, dx, l1, l2, ix⟩ | ⟨_, l2⟩
          · rw [l2] at q
            exact ⟨a, x, rfl, .inl ⟨kvs, k, hr, h2.key hk, l1.symm⟩, q x F2 H2 e12 ix⟩
          · rw [l2] at q
            exact q.elim
        · exact q.elim
    · exact q.elim
/-! ### k in d -/
def gInD (d e : PyData) : R Bool := match e with
  | .dict es => if isN es = true then .st else match eKey d with
    | some k => .ok (dLookK es k).isSome
    | none => .st
  | _ => .st
def rDin (neg : Bool) : R2 := fun y x H Q => ∃ a o, x = .ref a ∧ DGet H a y o ∧ Q (.bl (if neg then !o.isSome else o.isSome)) H
theorem op_din (hu : X.A.units + 1 < cLine) : OpR X (compareOp .In) (rDin false) := by
  intro pins s σ H y x iv u Q I ry rx ⟨a, o, ex, g, q⟩
  subst ex
  obtain rfl : u = Value.ref a := rx
  exact d_in hu I g ry fun s3 I3 => ⟨.bl o.isSome, H, I3, rfl, q⟩
theorem op_dnin (hu : X.A.units + 1 < cLine) : OpR X (compareOp .NotIn) (rDin true) := by
  intro pins s σ H y x iv u Q I ry rx ⟨a, o, ex, g, q⟩
  subst ex
  obtain rfl : u = Value.ref a := rx
  exact d_notIn hu I g ry fun s3 I3 => ⟨.bl (!o.isSome), H, I3, rfl, q⟩
theorem din_of {x y : V} {d e : PyData} {K : Bool → Prop} {w : Xn → Prop} (sub : Same F H) (h1 : Bor C.toBs F H x d) (h2 : Bor C.toBs F H y e) (q : OkR (gInD d e) K w) : ∃ a o, y = .ref a ∧ DGet H a x o ∧ K o.isSome := by
  unfold gInD at q
  split at q
  · split at q
    · exact q.elim
    · rename_i es hn
      split at q
      · rename_i k hk
        obtain ⟨a, kvs, rfl, hr, i⟩ := h2.dictK (by simpa using hn) sub
        refine ⟨a, valV kvs k, rfl, .inl ⟨kvs, k, hr, h1.key hk, rfl⟩, ?_⟩
        rcases i.look k with ⟨x, dx, l1, l2, ix⟩ | ⟨l1, l2⟩
        · rw [l2] at q; rw [l1]; exact q
        · rw [l2] at q; rw [l1]; exact q
      · exact q.elim
  · exact q.elim
def gIn (d e : PyData) : R Bool := match e with
  | .dict es => gInD d (.dict es)
  | e => gInS d e
def gNin (d e : PyData) : R Bool := (gIn d e).bind fun b => .ok (!b)
theorem op_inA (hu : X.A.units + 64 < cLine) : OpR X (compareOp .In) (rOr (rOr (rSgn false) (rInSeq X.K false)) (rDin false)) := opR_or (opR_or op_sgn (op_inSeq hu)) (op_din (by omega))
theorem op_ninA (hu : X.A.units + 64 < cLine) : OpR X (compareOp .NotIn) (rOr (rOr (rSgn true) (rInSeq X.K true)) (rDin true)) := opR_or (opR_or op_nsgn (op_ninSeq hu)) (op_dnin (by omega))
theorem sem_inA : Sem2 C .f (rOr (rOr (rSgn false) (rInSeq C.K false)) (rDin false)) (boolD gIn) := by
  intro F H x y d e Q e0 h1 h2 q
  cases e with
  | dict es =>
    have q := boolD_ok.mp q
    obtain ⟨a, o, ey, g, w⟩ := din_of e0.sub h1 h2 q
    exact .inr ⟨a, o, ey, g, w _ F H (Ext.refl e0.sub) (.bl _)⟩
  | _ => exact .inl (sem_inS F H x y d _ Q e0 h1 h2 q)
theorem sem_ninA : Sem2 C .f (rOr (rOr (rSgn true) (rInSeq C.K true)) (rDin true)) (boolD gNin) := by
  intro F H x y d e Q e0 h1 h2 q
  cases e with
  | dict es =>
    have q := boolD_ok.mp q
    unfold gNin at q
    rw [okR_bind] at q
    obtain ⟨a, o, ey, g, w⟩ := din_of e0.sub h1 h2 q
    exact .inr ⟨a, o, ey, g, w _ F H (Ext.refl e0.sub) (.bl _)⟩
  | _ => exact .inl (sem_ninS F H x y d _ Q e0 h1 h2 q)
/-! ### {}, d[k] = v -/
def mDnew (_ρ : Env) : R PyData := .ok (.dict [])
theorem none_sub {G : Hp} {p : Addr} (sub : Same G H) (hp : H p = none) : G p = none := by
  cases e : G p with
  | none => rfl
  | some u => rw [sub _ _ e] at hp; cases hp
theorem e_dnew : PE X (.Dict [] [] pos) (tM C .o mDnew) := pe_dnewK.imp fun σ H Q ⟨ρ, F, rp, q⟩ p hp =>
  q (.ref p) F _ (Ext.push rp.sub hp) ⟨p, rfl, hp, none_sub rp.sub hp, Own.dK upd_same .nil⟩
theorem Rep.dict {i : Nat} {es : List (PyData × PyData)} (rp : Rep C.toCb ρ σ F H) (h : ρ[i]? = some (.ow (.dict es))) (hn : isN es = false) : ∃ p kvs, σ[i]? = some (some (.ref p)) ∧ F p = none ∧ H p = some (.dK kvs) ∧ IsKV C.toBs F kvs es := by
  obtain ⟨p, h1, h2, h3, o⟩ := rp.slot i _ h
  cases o with
  | dK h r => exact ⟨p, _, h1, h3, h, r⟩
  | dN h r => cases hn
def mDput (i : Nat) (mk mv : Env → R PyData) (ρ : Env) : R Fl := match ρ[i]? with
  | some (.ow (.dict es)) => (mv ρ).bind fun d => (mk ρ).bind fun e => if isN es = true then .st else match eKey e with
    | some k => if es.length < sizeLine then .ok (.nx (ρ.set i (.ow (.dict (dPutK es k d))))) else .st
    | none => .st
  | _ => .st
section
variable {x : Str} {p1 pos' : Pos}
theorem s_dput (i : Nat) (hu : X.A.units + 1 < cLine) (hk : PE X a (tM C .b ma)) (hv : PE X b (tM C .f mb)) (hN : X.N[i]? = some x := by rfl) (hvi : Vis X.env.scope x := by first | exact Or.inl rfl | exact Or.inr (Or.inl rfl) | exact Or.inr (Or.inr rfl))
    (hd : (x == ("__debug__" : Str)) = false := by decide) (hcd : (x == ("__classdict__" : Str)) = false := by decide) (hs : swapsWith b (some (.Subscript (.Name x p1) a pos')) pos.line X.env = pure false := by rfl) :
    PS X (.Assign [.Subscript (.Name x p1) a pos'] b pos) (tS C (mDput i ma mb)) :=
  (ps_dput hu (pv i hN hvi hd hcd) hk hv hs).imp fun D σ H ⟨ρ, F, rp, q⟩ => by
    unfold mDput at q
    split at q
    · rename_i es hi
      rw [okR_bind] at q
      refine ⟨ρ, F, rp, okR_mono q fun d _ q v F1 H1 e1 h1 => ?_⟩
      rw [okR_bind] at q
      obtain ⟨p, hsl, _⟩ := rp.slot i _ hi
      have rp1 := rp.on e1
      refine ⟨.ref p, hsl, ρ, F1, rp1, okR_mono q fun e _ q u F2 H2 e2 h2 => ?_⟩
      have h2 : Bor C.toBs F2 H2 u e := h2
      have h1 : Is C.toBs F2 v d := Is.mono e2.fr h1
      split at q
      · exact q.elim
      · rename_i hn
        split at q
        · rename_i k hk
          split at q
          · rename_i hl
            have rp2 := rp1.on e2
            obtain ⟨p', kvs, hsl', fp, hp, i0⟩ := rp2.dict hi (by simpa using hn)
            rw [hsl] at hsl'
            cases hsl'
            refine ⟨p, _, rfl, .inl ⟨kvs, k, hp, h2.key hk, by rw [i0.length]; exact hl, rfl⟩, q σ F2 _ (rp2.write hi hsl (Own.dK upd_same (i0.put h1))) (e1.fr.trans e2.fr)⟩
          · exact q.elim
        · exact q.elim
    · exact q.elim
end
/-! ### d.get(k, x) -/
def gGet2 (d e f : PyData) : R PyData := match d with
  | .dict es => if isN es = true then .st else match eKey e with
    | some k => .ok ((dLookK es k).getD f)
    | none => .st
  | _ => .st
def m3 (g : PyData → PyData → PyData → R PyData) (ma mb mc : Env → R PyData) (ρ : Env) : R PyData := (ma ρ).bind fun d => (mb ρ).bind fun e => (mc ρ).bind fun f => g d e f
end
end Pv

/-! Pv, part 10: tests that change one's own dict; defs that change a dict that is handed in. -/
namespace Pv
open PySem PySem.Spec PyProof.Rows L2
section
variable {C : Cc} {X : Cx} {ρ : Env} {σ : L2.St} {F H F' H' : Hp} {v : V} {d : PyData} {M : Md} {a b c : Expr} {pos : Pos} {ma mb mc : Env → R PyData} {D : Ends} {ta tb : Env → R (Bool × Env)} {sts sts' : List Stmt} {m n : Env → R Fl}
def tX (C : Cc) (m : Env → R (Bool × Env)) : TT := fun σ H Q => ∃ ρ F, Rep C.toCb ρ σ F H ∧ OkR (m ρ) (fun p => ∀ F' H', Rep C.toCb p.2 σ F' H' → Same F F' → Q p.1 H') C.wx
def mXT (t : Env → R Bool) (ρ : Env) : R (Bool × Env) := (t ρ).bind fun b => .ok (b, ρ)
theorem x_of {t : Env → R Bool} (h : PT X a (tT C t)) : PT X a (tX C (mXT t)) := h.imp fun σ H Q ⟨ρ, F, rp, q⟩ => by
  unfold mXT at q
  rw [okR_bind] at q
  exact ⟨ρ, F, rp, okR_mono q fun b _ q F' H' e => q F' H' (rp.on e) e.fr⟩
def mXNot (t : Env → R (Bool × Env)) (ρ : Env) : R (Bool × Env) := (t ρ).bind fun p => .ok (!p.1, p.2)
theorem x_not (ha : PT X a (tX C ta)) : PT X (.UnaryOp .Not a pos) (tX C (mXNot ta)) := (pt_not ha).imp fun σ H Q ⟨ρ, F, rp, q⟩ => by
  unfold mXNot at q
  rw [okR_bind] at q
  exact ⟨ρ, F, rp, okR_mono q fun b _ q => q⟩
def mXOr (ta tb : Env → R (Bool × Env)) (ρ : Env) : R (Bool × Env) := (ta ρ).bind fun p => if p.1 = true then .ok p else tb p.2
theorem wx_or1 (ha : PT X a (tX C ta)) : PW X (.BoolOp .Or [a] pos) (tX C ta) := pw_or1 ha
theorem wx_or {rest : List Expr} (ha : PT X a (tX C ta)) (hb : PW X (.BoolOp .Or (b :: rest) pos) (tX C tb)) : PW X (.BoolOp .Or (a :: b :: rest) pos) (tX C (mXOr ta tb)) := (pw_or ha hb).imp fun σ H Q ⟨ρ, F, rp, q⟩ => by
  unfold mXOr at q
  rw [okR_bind] at q
  refine ⟨ρ, F, rp, okR_mono q fun p _ q F1 H1 r1 s1 => ?_⟩
  obtain ⟨k, ρ1⟩ := p
  cases k with
  | true =>
    rw [if_pos rfl] at q ⊢
    exact q F1 H1 r1 s1
  | false =>
    rw [if_neg Bool.false_ne_true] at q ⊢
    exact ⟨ρ1, F1, r1, okR_mono q fun b _ q F2 H2 r2 s2 => q F2 H2 r2 (s1.trans s2)⟩
def mIfX (ta : Env → R (Bool × Env)) (m n : Env → R Fl) (ρ : Env) : R Fl := (ta ρ).bind fun p => if p.1 = true then m p.2 else n p.2
theorem s_ifX (hc : PT X c (tX C ta)) (ha : PSs X sts (tS C m)) (hb : PSs X sts' (tS C n)) : PS X (.If c sts sts' pos) (tS C (mIfX ta m n)) := (ps_if hc ha hb).imp fun D σ H ⟨ρ, F, rp, q⟩ => by
  unfold mIfX at q
  rw [okR_bind] at q
  refine ⟨ρ, F, rp, okR_mono q fun p _ q F1 H1 r1 s1 => ?_⟩
  obtain ⟨k, ρ1⟩ := p
  cases k with
  | true =>
    rw [if_pos rfl] at q ⊢
    exact ⟨ρ1, F1, r1, okR_mono q fun fl _ q => q.on s1⟩
  | false =>
    rw [if_neg Bool.false_ne_true] at q ⊢
    exact ⟨ρ1, F1, r1, okR_mono q fun fl _ q => q.on s1⟩
/-! ### while -/
def whileXN (mc : Env → R (Bool × Env)) (mb : Env → R Fl) : Nat → Env → R Fl
  | 0, _ => .st
  | n + 1, ρ => (mc ρ).bind fun p => if p.1 = true then (mb p.2).bind fun fl => match fl with
    | .nx ρ2 => whileXN mc mb n ρ2
    | .ct ρ2 => whileXN mc mb n ρ2
    | .bk ρ2 => .ok (.nx ρ2)
    | .rt d ρ2 => .ok (.rt d ρ2)
    else .ok (.nx p.2)
open Classical in
noncomputable def mWhileX (mc : Env → R (Bool × Env)) (mb : Env → R Fl) (ρ : Env) : R Fl := if h : ∃ n, whileXN mc mb n ρ ≠ .st then whileXN mc mb h.choose ρ else .st
theorem mWhileX_some {mc : Env → R (Bool × Env)} {mB : Env → R Fl} {ρ : Env} (h : mWhileX mc mB ρ ≠ .st) : ∃ n, whileXN mc mB n ρ = mWhileX mc mB ρ := by
  unfold mWhileX at h ⊢
  split
  · exact ⟨_, rfl⟩
  · rename_i z
    rw [dif_neg z] at h
    exact (h rfl).elim
theorem whileXN_more {mc : Env → R (Bool × Env)} {mB : Env → R Fl} : ∀ (n : Nat) (ρ : Env), whileXN mc mB n ρ ≠ .st → whileXN mc mB (n + 1) ρ = whileXN mc mB n ρ
  | 0, ρ, h => (h rfl).elim
  | n + 1, ρ, h => by
    rw [whileXN] at h ⊢
    rw [whileXN]
    refine bind_nst h fun p hp => ?_
    by_cases e : p.1 = true
    · rw [if_pos e] at hp ⊢
      rw [if_pos e]
      refine bind_nst hp fun fl hf => ?_
      cases fl with
      | nx ρ2 => exact whileXN_more n ρ2 hf
      | ct ρ2 => exact whileXN_more n ρ2 hf
      | bk ρ2 => rfl
      | rt d ρ2 => rfl
    · rw [if_neg e, if_neg e]
theorem whileXN_le {mc : Env → R (Bool × Env)} {mB : Env → R Fl} {n k : Nat} {ρ : Env} (h : whileXN mc mB n ρ ≠ .st) (hm : n ≤ k) : whileXN mc mB k ρ = whileXN mc mB n ρ := by
  induction k with
  | zero => cases Nat.le_zero.mp hm; rfl
  | succ k ih =>
    by_cases e : n = k + 1
    · subst e; rfl
    · have := ih (by omega)
      rw [whileXN_more k ρ (by rw [this]; exact h), this]
theorem mWhileX_eq {mc : Env → R (Bool × Env)} {mB : Env → R Fl} {n : Nat} {ρ : Env} (h : whileXN mc mB n ρ ≠ .st) : mWhileX mc mB ρ = whileXN mc mB n ρ := by
  have hx : ∃ n, whileXN mc mB n ρ ≠ .st := ⟨n, h⟩
  unfold mWhileX
  rw [dif_pos hx]
  have hc := hx.choose_spec
  rcases Nat.le_total n hx.choose with l | l
  · exact whileXN_le h l
  · exact (whileXN_le hc l).symm
theorem s_whileX {mB : Env → R Fl} {body : List Stmt} (hp : PassesOwn (model X.prog X.w) X.A X.env X.xe) (hc : PT X c (tX C ta)) (hb : PSs X body (tS C mB)) : PS X (.While c body [] pos) (tS C (mWhileX ta mB)) :=
  (ps_while hp hc hb).imp fun D σ H ⟨ρ, F, rp, q⟩ => by
    have hne : mWhileX ta mB ρ ≠ .st := fun z => by rw [z] at q; exact q
    obtain ⟨n, hn⟩ := mWhileX_some hne
    rw [← hn] at q
    refine ⟨fun k σ' H' => ∃ ρ' F', Rep C.toCb ρ' σ' F' H' ∧ Same F F' ∧ OkR (whileXN ta mB k ρ') (FlOk C D F') C.wx, ⟨n, ρ, F, rp, Same.refl _, q⟩, ?_⟩
    rintro k σ' H' ⟨ρ', F', rp', sF, q'⟩
    cases k with
    | zero => exact q'.elim
    | succ k =>
      rw [whileXN, okR_bind] at q'
      refine ⟨ρ', F', rp', okR_mono q' fun z _ q' F2 H2 r2 s2 => ?_⟩
      obtain ⟨z, ρ1⟩ := z
      cases z with
      | true =>
        rw [if_pos rfl] at q' ⊢
        rw [okR_bind] at q'
        refine ⟨fun σ3 H3 => ∃ ρ3 F3, Rep C.toCb ρ3 σ3 F3 H3 ∧ Same F F3 ∧ OkR (whileXN ta mB k ρ3) (FlOk C D F3) C.wx, fun σ3 H3 h3 => ⟨k, Nat.lt_succ_self k, h3⟩, ρ1, F2, r2, okR_mono q' fun fl _ q' => ?_⟩
        have sF2 := sF.trans s2
        cases fl with
        | nx ρ2 => exact fun σ3 F3 H3 r3 s3 => ⟨ρ2, F3, r3, sF2.trans s3, okR_mono q' fun fl _ q => q.on (s2.trans s3)⟩
        | ct ρ2 => exact fun σ3 F3 H3 r3 s3 => ⟨ρ2, F3, r3, sF2.trans s3, okR_mono q' fun fl _ q => q.on (s2.trans s3)⟩
        | bk ρ2 => exact fun σ3 F3 H3 r3 s3 => q' σ3 F3 H3 r3 (s2.trans s3)
        | rt d ρ2 => exact fun v σ3 F3 H3 r3 s3 => q' v σ3 F3 H3 r3 (s2.trans s3)
      | false =>
        rw [if_neg Bool.false_ne_true] at q' ⊢
        exact q' σ' F2 H2 r2 s2
/-! ### a dict that is handed in -/
def del (H : Hp) (a : Addr) : Hp := fun b => if b = a then none else H b
theorem del_same {H : Hp} {a : Addr} : del H a a = none := if_pos rfl
theorem del_ne {H : Hp} {a b : Addr} (h : b ≠ a) : del H a b = H b := if_neg h
theorem same_del {G H : Hp} {a : Addr} (s : Same G H) (h : G a = none) : Same G (del H a) := fun b x e => by
  have hb : b ≠ a := fun z => by subst z; rw [h] at e; cases e
  rw [del_ne hb]; exact s b x e
theorem del_sub {H : Hp} {a : Addr} : Same (del H a) H := fun b x e => by
  by_cases hb : b = a
  · subst hb; rw [del_same] at e; cases e
  · rw [del_ne hb] at e; exact e
theorem Ext.del {F0 H0 F H F' H' : Hp} {a : Addr} (e1 : Ext F0 H0 F H) (h0 : H0 a = Option.none) (e2 : Ext F (Pv.del H a) F' H') : Ext F0 H0 F' H' :=
  ⟨e1.fr.trans e2.fr, (same_del e1.all h0).trans e2.all, e2.sub, fun b o e => by
    rcases e2.new b o e with z | z
    · exact e1.new b o z
    · by_cases hb : b = a
      · subst hb; exact .inr h0
      · rw [del_ne hb] at z; exact .inr (e1.all.free z)⟩
theorem Rep.mut {i : Nat} {p : Addr} {d0 d : PyData} (rp : Rep C.toCb ρ σ F H) (h : ρ[i]? = some (.ow d0)) (hs : σ[i]? = some (some (.ref p))) (e2 : Ext F (del H p) F' H') (fp : F' p = none) (own : Own C.toBs F' H' p d) : Rep C.toCb (ρ.set i (.ow d)) σ F' H' := by
  obtain ⟨p', h1, h2, h3, o4⟩ := rp.slot i _ h
  rw [hs] at h1
  cases h1
  refine ⟨rp.ext.del h2 e2, by rw [List.length_set]; exact rp.len, fun j s hj => ?_, fun j k q dj dk hj hk sj sk => ?_, rp.pin⟩
  · rcases set_get hj with ⟨rfl, rfl, hl⟩ | ⟨hne, hj⟩
    · exact ⟨p, hs, h2, fp, own⟩
    · have q := rp.slot j s hj
      cases s with
      | un => trivial
      | fr d => obtain ⟨v, h1, h2⟩ := q; exact ⟨v, h1, h2.mono e2.fr⟩
      | bo d => obtain ⟨v, h1, h2⟩ := q; exact ⟨v, h1, h2.mono e2.fr (Same.refl _)⟩
      | ow d' =>
        obtain ⟨p', q1, q2, q3, q4⟩ := q
        have hne2 : p' ≠ p := fun z => by
          subst z
          exact hne (rp.apart j i p' d' d0 hj h q1 hs)
        obtain ⟨u, hu⟩ := q4.some
        exact ⟨p', q1, q2, e2.none q3 (by rw [del_ne hne2]; exact hu), q4.at e2.fr fun o2 e => e2.all _ _ (by rw [del_ne hne2]; exact e)⟩
  · have key : ∀ {j : Nat} {dj : PyData}, (ρ.set i (.ow d))[j]? = some (.ow dj) → ∃ dj', ρ[j]? = some (.ow dj') := fun {j dj} hj => by
      rcases set_get hj with ⟨rfl, _, _⟩ | ⟨_, hj⟩
      · exact ⟨_, h⟩
      · exact ⟨_, hj⟩
    obtain ⟨dj', hj⟩ := key hj
    obtain ⟨dk', hk⟩ := key hk
    exact rp.apart j k q dj' dk' hj hk sj sk
def initM (n : Nat) (Ms : List Bool) (ds : List PyData) (d0 : PyData) : Env := (List.zipWith (fun (m : Bool) d => if m = true then Sl.fr d else Sl.bo d) Ms ds) ++ .ow d0 :: List.replicate (n - (ds.length + 1)) .un
def endM (j : Nat) (r : R Fl) : R (PyData × PyData) := r.bind fun fl => match fl with
  | .rt d ρ => match ρ[j]? with
    | some (.ow d') => .ok (d, d')
    | _ => .st
  | _ => .st
def runM (n : Nat) (Ms : List Bool) (m : Env → R Fl) (ds : List PyData) (d0 : PyData) : R (PyData × PyData) := endM Ms.length (m (initM n Ms ds d0))
/-- the last thing handed in may be changed -/
def spM (B : Bs) (nm : Str → Option Addr) (Ms : List Bool) (g : List PyData → PyData → R (PyData × PyData)) : Sp := fun vs H Q E => ∃ F ds us a d0, vs = us ++ [.ref a] ∧ Same F H ∧ F a = none ∧ HdL B F (del H a) Ms us ds ∧ Own B F H a d0 ∧
  OkR (g ds d0) (fun p => ∀ v F' H', Ext F (del H a) F' H' → F' a = none → Own B F' H' a p.2 → Is B F' v p.1 → Q v H') (fun x => ∀ F' H' cls dd, Ext F (del H a) F' H' → ExIs B x cls dd F' H' nm → E cls dd H')
theorem rep_startM {Ms : List Bool} {us : List V} {ds : List PyData} {N : List Str} {p : Addr} {d0 : PyData} (h : HdL C.toBs F (del H p) Ms us ds) (own : Own C.toBs F H p d0) (fp : F p = none) (sub : Same F H) (hF : C.F0 = F) (hH : C.H0 = del H p) (hp : C.pin = [(Ms.length, p)]) :
    Rep C.toCb (initM N.length Ms ds d0) (L2.start N (us ++ [.ref p])) F H := by
  obtain ⟨h1, h2⟩ := h.len
  have hz : (List.zipWith (fun (m : Bool) d => if m = true then Sl.fr d else Sl.bo d) Ms ds).length = Ms.length := by rw [List.length_zipWith, h2, Nat.min_self]
  have hst : L2.start N (us ++ [.ref p]) = us.map some ++ (some (.ref p) :: List.replicate (N.length - (us.length + 1)) none) := by
    unfold L2.start
    rw [List.map_append, List.length_append, List.append_assoc]; rfl
  have hat : (L2.start N (us ++ [.ref p]))[Ms.length]? = some (some (.ref p)) := by
    rw [hst, List.getElem?_append_right (by simp [h1]), List.length_map, h1, Nat.sub_self]; rfl
  have own? : ∀ (i : Nat) (s : Sl), (initM N.length Ms ds d0)[i]? = some s → (i < Ms.length ∧ ((List.zipWith (fun (m : Bool) d => if m = true then Sl.fr d else Sl.bo d) Ms ds) ++ List.replicate 0 .un)[i]? = some s) ∨ (i = Ms.length ∧ s = .ow d0) ∨ (Ms.length < i ∧ s = .un) := by
    intro i s hs
    unfold initM at hs
    by_cases hi : i < Ms.length
    · rw [List.getElem?_append_left (by rw [hz]; exact hi)] at hs
      exact .inl ⟨hi, by rw [List.replicate_zero, List.append_nil]; exact hs⟩
    · rw [List.getElem?_append_right (by rw [hz]; omega), hz] at hs
      by_cases e : i = Ms.length
      · subst e
        rw [Nat.sub_self] at hs
        exact .inr (.inl ⟨rfl, (Option.some.inj hs).symm⟩)
      · obtain ⟨k, hk⟩ : ∃ k, i - Ms.length = k + 1 := ⟨i - Ms.length - 1, by omega⟩
        rw [hk, List.getElem?_cons_succ, List.getElem?_replicate] at hs
        split at hs
        · exact .inr (.inr ⟨by omega, (Option.some.inj hs).symm⟩)
        · cases hs
  refine ⟨by rw [hF, hH]; exact ⟨Same.refl _, del_sub, sub, fun _ _ e => .inl e⟩, ?_, fun i s hs => ?_, fun i j q di dj hi hj _ _ => ?_, fun q hq => ?_⟩
  · rw [hst]
    unfold initM
    rw [List.length_append, List.length_append, hz, List.length_cons, List.length_cons, List.length_replicate, List.length_replicate, List.length_map, h1, h2]
  · rcases own? i s hs with ⟨hi, hs⟩ | ⟨rfl, rfl⟩ | ⟨hi, rfl⟩
    · have q := (start_slot h hH 0 i s hs).1
      have e : (L2.start N (us ++ [.ref p]))[i]? = (us.map some ++ List.replicate 0 none)[i]? := by
        rw [hst, List.getElem?_append_left (by simp; omega), List.replicate_zero, List.append_nil]
      have nw := (start_slot h hH 0 i s hs).2
      rw [e]
      cases s with
      | un => trivial
      | fr d => exact q
      | bo d => exact q
      | ow d => exact (nw d rfl).elim
    · refine ⟨p, hat, by rw [hH]; exact del_same, fp, own⟩
    · trivial
  · rcases own? i _ hi with ⟨h', hs⟩ | ⟨e1, _⟩ | ⟨_, z⟩
    · exact ((start_slot h hH 0 i _ hs).2 di rfl).elim
    · rcases own? j _ hj with ⟨h', hs⟩ | ⟨e2, _⟩ | ⟨_, z⟩
      · exact ((start_slot h hH 0 j _ hs).2 dj rfl).elim
      · rw [e1, e2]
      · cases z
    · cases z
  · rw [hp] at hq
    rw [List.mem_singleton.mp hq]
    exact hat
end
section
variable {P : Program} {w : World} {K : PySem.W.Frag} {mg : Str → Option Value} {base : Heap} {nm : Str → Option Addr}
abbrev mkM (P : Program) (w : World) (K : PySem.W.Frag) (nm : Str → Option Addr) (F0 H : Hp) (E : XK) (j : Nat) (p : Addr) : Cc := ⟨⟨⟨P, w, K⟩, F0, del H p, E, [(j, p)]⟩, nm, false⟩
theorem npM {F0 H : Hp} {E : XK} {j : Nat} {q : Addr} {i : Nat} (h : (j == i) = false := by rfl) : ∀ p ∈ (mkM P w K nm F0 H E j q).pin, p.1 ≠ i := fun p hp => by
  rw [List.mem_singleton.mp hp]
  exact fun e => by
    have e : j = i := e
    rw [e] at h
    simp at h
theorem onM {X : Cx} {F0 H : Hp} {E : XK} {j : Nat} {q : Addr} (h1 : P = X.prog := by rfl) (h2 : w = X.w := by rfl) (h3 : K = X.K := by rfl) : On (mkM P w K nm F0 H E j q) X := ⟨h1, h2, h3⟩
theorem fn_m {x : Str} {st : Stmt} {N ps : List Str} {k : Nat} {Ms : List Bool} {m : Env → R Fl} (d : Df K mg x st ps) (S : FnScope N ps (defScope st)) (hl : Ms.length + 1 = ps.length)
    (body : ∀ (F0 H : Hp) (E : XK) (cdv : Value) (A : Around) (outer : List PySem.Env) (s : Shared) (f : Addr) (q : Addr), Room k (cxOf CX0 P w K mg base N x (defScope st) f cdv A outer s H E).A →
      PSs (cxOf CX0 P w K mg base N x (defScope st) f cdv A outer s H E).nox (defBody st) (tS (mkM P w K nm F0 H E Ms.length q) m)) :
    Fn P w K mg base CX0 (k + 1) x (spM ⟨P, w, K⟩ nm Ms (runM N.length Ms m)) := by
  obtain ⟨f, fd, F, hm, b⟩ := d.ex
  refine ⟨f, fd, ps, F.ok S (fun vs H Q E h => ?_) (fun cdv A outer s H vs Q E hr h => ?_), hm, F.kp, b⟩
  · obtain ⟨F0, ds, us, a, d0, rfl, _, _, h, _⟩ := h
    rw [List.length_append, h.len.1]; exact hl
  · obtain ⟨F0, ds, us, a, d0, rfl, sub, fa, hd, own, q⟩ := h
    refine ⟨tS (mkM P w K nm F0 H E Ms.length a) m, body F0 H E cdv A outer s f a hr, initM N.length Ms ds d0, F0, rep_startM (C := mkM P w K nm F0 H E Ms.length a) hd own fa sub rfl rfl rfl, ?_⟩
    unfold runM endM at q
    rw [okR_bind] at q
    refine okR_mono2 q (fun fl _ q => ?_) fun xn _ q F' H' cls dd e => q F' H' cls dd e
    cases fl with
    | rt d ρ =>
      intro v σ F' H' r s is
      have q : OkR (match ρ[Ms.length]? with | some (.ow d') => R.ok (d, d') | _ => .st) _ _ := q
      split at q
      · rename_i d' hi
        obtain ⟨p, h1, h2, h3, h4⟩ := r.slot _ _ hi
        have hpin := r.pin (Ms.length, a) (List.mem_singleton.mpr rfl)
        rw [hpin] at h1
        cases h1
        exact q v F' H' r.ext h3 h4 (by rw [if_neg (show ¬ false = true by decide)] at is; exact is)
      · exact q.elim
    | nx ρ => exact q.elim
    | ct ρ => exact q.elim
    | bk ρ => exact q.elim
end
section
variable {C : Cc} {X : Cx} {es : List Expr} {e : Expr} {me mf : Env → R PyData} {x y : Str} {k j : Nat} {g : List PyData → PyData → R (PyData × PyData)} {p pos yp : Pos} {CX : CXT}
/-- f(e, y), as a test: y is a dict of one's own -/
def mCallM (g : List PyData → PyData → R (PyData × PyData)) (i : Nat) (me : Env → R PyData) (ρ : Env) : R (Bool × Env) := match ρ[i]? with
  | some (.ow d0) => (me ρ).bind fun d => (g [d] d0).bind fun p => match p.1 with
    | .bool b => .ok (b, ρ.set i (.ow p.2))
    | _ => .st
  | _ => .st
theorem x_callM (i : Nat) {b : Bool} (hB : On C X) (c : Fn X.prog X.w X.K X.mg X.base CX k x (spM C.toBs C.nm [b] g)) (hb : b = false) (hr : Room j X.A) (hk : k ≤ j) (hx : Passes CX X C.E) (he : PE X e (tM C .s me)) (hN : X.N[i]? = some y := by rfl) (hv : Vis X.env.scope y := by first | exact Or.inl rfl | exact Or.inr (Or.inl rfl) | exact Or.inr (Or.inr rfl))
    (hd : (y == ("__debug__" : Str)) = false := by decide) (hcd : (y == ("__classdict__" : Str)) = false := by decide) (hg : Gl X x := by rfl)
    (hdb : (x == ("__debug__" : Str)) = false := by decide) (hs1 : starEach [e, .Name y yp] X.env = (false, eval e X.env) :: starEach [.Name y yp] X.env := by rfl) (hs2 : starEach [.Name y yp] X.env = (false, eval (.Name y yp) X.env) :: starEach [] X.env := by rfl) (hpl : (backTo pos (starEach [.Name y yp] X.env)).any (·.1) = false := by rfl)
    (ht : ∀ whole, isTrue (.Call (.Name x p) [e, .Name y yp] [] pos) X.env whole = (do let v ← whole; standAt (Expr.Call (.Name x p) [e, .Name y yp] [] pos).pos; holding [v] (truthy v)) := by intro _; rfl) :
    PT X (.Call (.Name x p) [e, .Name y yp] [] pos) (tX C (mCallM g i me)) := by
  obtain ⟨f, fd, ps, F, hm, kp, bb⟩ := c.ex
  refine (pt_truth (pe_call F (hr.mono hk) hg hm kp bb .nil hx (pa_cons he (pa_cons (pv i hN hv hd hcd) pa_nil hs2) hs1) hdb hs1 hpl) ht).imp fun σ H Q ⟨ρ, F, rp, q⟩ => ?_
  unfold mCallM at q
  split at q
  · rename_i d0 hi
    rw [okR_bind] at q
    refine ⟨ρ, F, rp, okR_mono q fun d _ q v F1 H1 e1 h1 => ?_⟩
    rw [okR_bind] at q
    have rp1 := rp.on e1
    obtain ⟨a, hsl, n0, fa, own⟩ := rp1.slot i _ hi
    have h1 : Bor C.toBs F1 C.H0 v d := h1
    refine ⟨.ref a, hsl, F1, [d], [v], a, d0, rfl, e1.sub, fa, ?_, own, okR_mono2 q (fun r _ q w F' H' e2 fa' own' is => ?_) fun xn _ wx F' H' cls dd e2 hx => wx F' H' cls dd (rp1.ext.del n0 e2) hx⟩
    · subst hb
      exact .b (Bor.mono (Same.refl _) (same_del rp1.ext.all n0) h1) .nil
    · split at q
      · rename_i b' hb'
        rw [hb'] at is
        cases is
        exact ⟨b', rfl, q F' H' (rp1.mut hi hsl e2 fa' own') (e1.fr.trans e2.fr)⟩
      · exact q.elim
  · exact q.elim
/-- f(e, e2): e2 a new dict -/
def mCallMT (g : List PyData → PyData → R (PyData × PyData)) (me mf : Env → R PyData) (ρ : Env) : R PyData := (me ρ).bind fun d => (mf ρ).bind fun d0 => (g [d] d0).bind fun p => .ok p.1
theorem e_callMT {b : Bool} {e2 : Expr} (c : Fn X.prog X.w X.K X.mg X.base CX k x (spM C.toBs C.nm [b] g)) (hb : b = false) (hr : Room j X.A) (hk : k ≤ j) (hx : Passes CX X C.E) (he : PE X e (tM C .f me)) (hf : PE X e2 (tM C .o mf)) (hg : Gl X x := by rfl)
    (hdb : (x == ("__debug__" : Str)) = false := by decide) (hs1 : starEach [e, e2] X.env = (false, eval e X.env) :: starEach [e2] X.env := by rfl) (hs2 : starEach [e2] X.env = (false, eval e2 X.env) :: starEach [] X.env := by rfl) (hpl : (backTo pos (starEach [e2] X.env)).any (·.1) = false := by rfl) :
    PE X (.Call (.Name x p) [e, e2] [] pos) (tM C .f (mCallMT g me mf)) := by
  obtain ⟨f, fd, ps, F, hm, kp, bb⟩ := c.ex
  refine (pe_call F (hr.mono hk) hg hm kp bb .nil hx (pa_cons he (pa_cons hf pa_nil hs2) hs1) hdb hs1 hpl).imp fun σ H Q ⟨ρ, F, rp, q⟩ => ?_
  unfold mCallMT at q
  rw [okR_bind] at q
  refine ⟨ρ, F, rp, okR_mono q fun d _ q v F1 H1 e1 h1 => ?_⟩
  rw [okR_bind] at q
  refine ⟨ρ, F1, rp.on e1, okR_mono q fun d0 _ q u F2 H2 e12 h2 => ?_⟩
  rw [okR_bind] at q
  obtain ⟨a, rfl, n1, fa, own⟩ := h2
  have h1 : Is C.toBs F1 v d := h1
  have e02 := e1.trans e12
  have n0 : H a = none := e1.all.free n1
  refine ⟨F2, [d], [v], a, d0, rfl, e12.sub, fa, ?_, own, okR_mono2 q (fun r _ q w F' H' e2 fa' own' is => q w F' H' (e02.del n0 e2) is) fun xn _ wx F' H' cls dd e2 hx => wx F' H' cls dd (rp.ext.trans (e02.del n0 e2)) hx⟩
  subst hb
  exact .b (.inl (h1.mono e12.fr)) .nil
end
end Pv

/-! Pv, part 11: setdefault, get, copies of dicts, pop, zip. -/
namespace Pv
open PySem PySem.Spec PyProof.Rows L2
section
variable {C : Cc} {X : Cx} {ρ : Env} {σ : L2.St} {F H F' H' : Hp} {v : V} {d : PyData} {M : Md} {a b c : Expr} {pos : Pos} {ma mb mc : Env → R PyData} {D : Ends}
theorem _root_.L2.Room.u1 {j : Nat} {A : Around} (h : Room j A) : A.units + 1 < cLine := by have := h.units; omega
theorem isD_bor {B : Bs} {es : List (PyData × PyData)} (h : Bor B F H v (.dict es)) (hn : isN es = false) (sub : Same F H) : ∃ a, v = .ref a ∧ IsD H a := by
  obtain ⟨a, kvs, rfl, hr, _⟩ := h.dictK hn sub
  exact ⟨a, rfl, .inl ⟨kvs, hr⟩⟩
/-! ### d.get(k, x) -/
theorem m3_ok {g : PyData → PyData → PyData → R PyData} {K : PyData → Prop} {w : Xn → Prop} : OkR (m3 g ma mb mc ρ) K w ↔ OkR (ma ρ) (fun d => OkR (mb ρ) (fun e => OkR (mc ρ) (fun f => OkR (g d e f) K w) w) w) w := by
  unfold m3
  rw [okR_bind]
  constructor
  · refine fun h => okR_mono h fun d _ h => ?_
    rw [okR_bind] at h
    refine okR_mono h fun e _ h => ?_
    rw [okR_bind] at h
    exact h
  · refine fun h => okR_mono h fun d _ h => ?_
    rw [okR_bind]
    refine okR_mono h fun e _ h => ?_
    rw [okR_bind]
    exact h
def mGet2 (ma mb mc : Env → R PyData) (ρ : Env) : R PyData := (ma ρ).bind fun d => match d with
  | .dict es => if isN es = true then .st else (mb ρ).bind fun e => (mc ρ).bind fun f => match eKey e with
    | some k => .ok ((dLookK es k).getD f)
    | none => .st
  | _ => .st
theorem e_get2 {apos cpos : Pos} (hu : X.A.units + 1 < cLine) (ha : PE X a (tM C .b ma)) (hb : PE X b (tM C .b mb)) (hc : PE X c (tM C .f mc)) (m : M2 X a "get" apos b c cpos := by exact ⟨rfl, rfl, rfl, rfl⟩) : PE X (.Call (.Attribute a "get" apos) [b, c] [] cpos) (tM C .f (mGet2 ma mb mc)) :=
  (pe_dget2 hu ha hb hc m).imp fun σ H Q ⟨ρ, F, rp, q⟩ => by
    unfold mGet2 at q
    rw [okR_bind] at q
    refine ⟨ρ, F, rp, okR_mono q fun d _ q v F1 H1 e1 h1 => ?_⟩
    have h1 : Bor C.toBs F1 H1 v d := h1
    have rp1 := rp.on e1
    split at q
    · rename_i es0
      split at q
      · exact q.elim
      · rename_i hn
        rw [okR_bind] at q
        obtain ⟨p, rfl, isd⟩ := isD_bor h1 (by simpa using hn) e1.sub
        refine ⟨p, rfl, isd, ρ, F1, rp1, okR_mono q fun e _ q u F2 H2 e2 h2 => ?_⟩
        rw [okR_bind] at q
        refine ⟨ρ, F2, rp1.on e2, okR_mono q fun f _ q x F3 H3 e3 h3 => ?_⟩
        have h1 := Bor.mono (e2.fr.trans e3.fr) (e2.all.trans e3.all) h1
        have h2 : Bor C.toBs F3 H3 u e := Bor.mono e3.fr e3.all h2
        have h3 : Is C.toBs F3 x f := h3
        split at q
        · rename_i k hk
          obtain ⟨a, kvs, er, hr, i⟩ := h1.dictK (by simpa using hn) e3.sub
          cases er
          refine ⟨valV kvs k, .inl ⟨kvs, k, hr, h2.key hk, rfl⟩, ?_⟩
          have e13 := e1.trans (e2.trans e3)
          rcases i.look k with ⟨y, dy, l1, l2, iy⟩ | ⟨l1, l2⟩
          · rw [l2] at q; rw [l1]; exact q y F3 H3 e13 iy
          · rw [l2] at q; rw [l1]; exact q x F3 H3 e13 h3
        · exact q.elim
    · exact q.elim
/-! ### d.setdefault(k, x) != y, as a test -/
def mSetd (i : Nat) (ma mb mc : Env → R PyData) (ρ : Env) : R (Bool × Env) := match ρ[i]? with
  | some (.ow (.dict es)) => if isN es = true then .st else (ma ρ).bind fun e => (mb ρ).bind fun d => match eKey e with
    | some k => if es.length < sizeLine then match dLookK es k with
      | some x => (mc ρ).bind fun y => (gNe x y).bind fun b => .ok (b, ρ)
      | none => (mc (ρ.set i (.ow (.dict (dPutK es k d))))).bind fun y => (gNe d y).bind fun b => .ok (b, ρ.set i (.ow (.dict (dPutK es k d))))
      else .st
    | none => .st
  | _ => .st
section
variable {x : Str} {p1 ap cp : Pos}
theorem x_setd (i : Nat) (hB : On C X) (hu : X.A.units + 64 < cLine) (ha : PE X a (tM C .b ma)) (hb : PE X b (tM C .f mb)) (hc : PE X c (tM C .b mc)) (hN : X.N[i]? = some x := by rfl) (hv : Vis X.env.scope x := by first | exact Or.inl rfl | exact Or.inr (Or.inl rfl) | exact Or.inr (Or.inr rfl))
    (hd : (x == ("__debug__" : Str)) = false := by decide) (hcd : (x == ("__classdict__" : Str)) = false := by decide) (m : M2 X (.Name x p1) "setdefault" ap a b cp := by exact ⟨rfl, rfl, rfl, rfl⟩)
    (hm : behindInMarks .NotEq c = false := by exact nomark _) : PT X (.Compare (.Call (.Attribute (.Name x p1) "setdefault" ap) [a, b] [] cp) [.NotEq] [c] pos) (tX C (mSetd i ma mb mc)) :=
  (pt_cmpR (op_neP hu) (pe_dsetd (pv i hN hv hd hcd) ha hb m) hc hm).imp fun σ H Q ⟨ρ, F, rp, q⟩ => by
    unfold mSetd at q
    split at q
    · rename_i es hi
      split at q
      · exact q.elim
      · rename_i hn
        have hn : isN es = false := by simpa using hn
        obtain ⟨p, kvs, hsl, fp, hp, i0⟩ := rp.dict hi hn
        rw [okR_bind] at q
        refine ⟨.ref p, hsl, p, rfl, .inl ⟨kvs, .inl hp⟩, ρ, F, rp, okR_mono q fun e _ q u F1 H1 e1 h1 => ?_⟩
        rw [okR_bind] at q
        have rp1 := rp.on e1
        refine ⟨ρ, F1, rp1, okR_mono q fun d _ q v F2 H2 e2 h2 => ?_⟩
        have rp2 := rp1.on e2
        have h1 : Bor C.toBs F2 H2 u e := Bor.mono e2.fr e2.all h1
        have h2 : Is C.toBs F2 v d := h2
        split at q
        · rename_i k hk
          split at q
          · rename_i hl
            obtain ⟨p', kvs', hsl', fp2, hp2, i2⟩ := rp2.dict hi hn
            rw [hsl] at hsl'
            cases hsl'
            refine ⟨kvs', k, hp2, h1.key hk, by rw [i2.length]; exact hl, fun y hy => ?_, fun hy => ?_⟩
            · rcases i2.look k with ⟨y', dy, l1, l2, iy⟩ | ⟨l1, l2⟩
              · rw [hy] at l1
                cases l1
                rw [l2] at q
                have q : OkR _ _ _ := q
                rw [okR_bind] at q
                refine ⟨ρ, F2, rp2, okR_mono q fun f _ q z F3 H3 e3 h3 => ?_⟩
                rw [okR_bind] at q
                have rp3 := rp2.on e3
                rw [← hB.K]
                refine sem_ne F3 H3 y z dy f _ rp3.ext (.inl (iy.mono e3.fr)) h3 (boolD_ok.mpr (okR_mono q fun b _ q w F' H' e4 hd => ?_))
                cases (show Is C.toBs F' w (.bool b) from hd)
                exact ⟨b, rfl, q F' H' (rp3.on e4) (e1.fr.trans (e2.fr.trans (e3.fr.trans e4.fr)))⟩
              · rw [hy] at l1; cases l1
            · rcases i2.look k with ⟨y', dy, l1, l2, iy⟩ | ⟨l1, l2⟩
              · rw [hy] at l1; cases l1
              · rw [l2] at q
                have q : OkR _ _ _ := q
                rw [okR_bind] at q
                have rpw := rp2.write hi hsl (o := .dK (putK kvs' k v)) (Own.dK upd_same (i2.put (k := k) h2))
                refine ⟨_, F2, rpw, okR_mono q fun f _ q z F3 H3 e3 h3 => ?_⟩
                rw [okR_bind] at q
                have rp3 := rpw.on e3
                rw [← hB.K]
                refine sem_ne F3 H3 v z d f _ rp3.ext (.inl (h2.mono e3.fr)) h3 (boolD_ok.mpr (okR_mono q fun b _ q w F' H' e4 hd => ?_))
                cases (show Is C.toBs F' w (.bool b) from hd)
                exact ⟨b, rfl, q F' H' (rp3.on e4) (e1.fr.trans (e2.fr.trans (e3.fr.trans e4.fr)))⟩
          · exact q.elim
        · exact q.elim
    · exact q.elim
end
/-! ### dict(d) -/
def gDictC : PyData → R PyData
  | .dict es => if isN es = true then .st else .ok (.dict es)
  | _ => .st
theorem sem_dictC : Sem1 C .o (fun xs H Q => ∃ (a : Addr) (kvs : List (Key × V)), xs = [.ref a] ∧ Rd H a (.dK kvs) ∧ ∀ p, H p = none → Q (.ref p) (upd H p (.dK kvs))) gDictC := by
  intro F H x d Q e0 h1 q
  unfold gDictC at q
  split at q
  · split at q
    · exact q.elim
    · rename_i hn
      obtain ⟨a, kvs, rfl, hr, i⟩ := h1.dictK (by simpa using hn) e0.sub
      exact ⟨a, kvs, rfl, hr, fun p hp => q (.ref p) F _ (Ext.push e0.sub hp) ⟨p, rfl, hp, none_sub e0.sub hp, Own.dK upd_same i⟩⟩
  · exact q.elim
/-! ### y = x.pop(), y = x.pop(k) of a list of one's own -/
def mPop (i j : Nat) (ρ : Env) : R Fl := match ρ[i]? with
  | some (.ow (.list ds)) => match ds[ds.length - 1]? with
    | some d => .ok (.nx ((ρ.set i (.ow (.list ds.dropLast))).set j (.fr d)))
    | none => .st
  | _ => .st
def mPopAt (i j : Nat) (ma : Env → R PyData) (ρ : Env) : R Fl := match ρ[i]? with
  | some (.ow (.list ds)) => (ma ρ).bind fun e => match e with
    | .int k => if 0 ≤ k ∧ k < ds.length then match ds[k.toNat]? with
      | some d => .ok (.nx ((ρ.set i (.ow (.list (ds.eraseIdx k.toNat)))).set j (.fr d)))
      | none => .st
      else .st
    | _ => .st
  | _ => .st
theorem isAll_dropLast {B : Bs} : ∀ {vs : List V} {ds : List PyData}, IsAll B F vs ds → IsAll B F vs.dropLast ds.dropLast
  | _, _, .nil => .nil
  | _, _, .cons h .nil => .nil
  | _, _, .cons h (.cons h2 r) => by
    rw [List.dropLast_cons₂, List.dropLast_cons₂]
    exact .cons h (isAll_dropLast (.cons h2 r))
theorem isAll_erase {B : Bs} : ∀ {vs : List V} {ds : List PyData} (k : Nat), IsAll B F vs ds → IsAll B F (vs.eraseIdx k) (ds.eraseIdx k)
  | _, _, _, .nil => .nil
  | _, _, 0, .cons h r => r
  | _, _, k + 1, .cons h r => .cons h (isAll_erase k r)
section
variable {x y : Str} {p1 p2 ap cp : Pos}
theorem s_pop (i j : Nat) (hN : X.N.Nodup) (hp : ∀ p ∈ C.pin, p.1 ≠ j) (hi : X.N[i]? = some x := by rfl) (hv : Vis X.env.scope x := by first | exact Or.inl rfl | exact Or.inr (Or.inl rfl) | exact Or.inr (Or.inr rfl)) (hd : (x == ("__debug__" : Str)) = false := by decide)
    (hcd : (x == ("__classdict__" : Str)) = false := by decide) (hbase : attributeBase (.Name x p1) "pop" X.env (eval (.Name x p1) X.env) = eval (.Name x p1) X.env := by rfl)
    (hline : (ap.endLine == cp.line) = true := by rfl) (hj : X.N[j]? = some y := by rfl) (hy : Loc X.env.scope y := by first | exact Or.inl rfl | exact Or.inr rfl)
    (hs : swapsWith (.Call (.Attribute (.Name x p1) "pop" ap) [] [] cp) (some (.Name y p2)) pos.line X.env = pure false := by rfl) (hf : X.fn y = true ∨ X.env.scope.names.lookup y = some .local := by first | exact .inl rfl | exact .inr rfl) :
    PS X (.Assign [.Name y p2] (.Call (.Attribute (.Name x p1) "pop" ap) [] [] cp) pos) (tS C (mPop i j)) :=
  (ps_set hN hj hy (pe_bm0 PySem.F.plainAttrs_list PySem.F.slot_list_pop PySem.F.type_list_pop mt_pop (pv i hi hv hd hcd) hbase hline) hs hf).imp fun D σ H ⟨ρ, F, rp, q⟩ => by
    unfold mPop at q
    split at q
    · rename_i ds hh
      obtain ⟨p, xs, hsl, fp, hpp, z, i0⟩ := rp.lst hh
      split at q
      · rename_i d hd'
        obtain ⟨v, hv', is⟩ := i0.getD hd'
        have rp1 := rp.write hh hsl (o := .lst xs.dropLast) (Own.lst upd_same (by rw [List.length_dropLast]; omega) (isAll_dropLast i0))
        refine ⟨.ref p, hsl, .inl ⟨rfl, _, .of hpp⟩, p, xs, v, rfl, rfl, hpp, by rw [i0.length]; exact hv', ?_⟩
        exact q _ F _ (rp1.asg (M := .f) hp (Ext.refl rp1.sub) is) (Same.refl _)
      · exact q.elim
    · exact q.elim
theorem s_popAt (i j : Nat) (ha : PE X a (tM C .b ma)) (hN : X.N.Nodup) (hp : ∀ p ∈ C.pin, p.1 ≠ j) (hi : X.N[i]? = some x := by rfl) (hv : Vis X.env.scope x := by first | exact Or.inl rfl | exact Or.inr (Or.inl rfl) | exact Or.inr (Or.inr rfl)) (hd : (x == ("__debug__" : Str)) = false := by decide)
    (hcd : (x == ("__classdict__" : Str)) = false := by decide) (hbase : attributeBase (.Name x p1) "pop" X.env (eval (.Name x p1) X.env) = eval (.Name x p1) X.env := by rfl)
    (hfew : ((backTo cp (starEach [a] X.env)).all (fun x => !x.1) && (backToKw cp (keywordEach [] X.env)).all (fun x => x.1.isSome) && decide ([a].length + ([] : List Keyword).length + (if ([] : List Keyword).isEmpty then 0 else 1) < 30)) = true := by rfl)
    (hline : (ap.endLine == cp.line) = true := by rfl) (hse : starEach [a] X.env = (false, eval a X.env) :: starEach [] X.env := by rfl) (hpl : (backTo cp (starEach [] X.env)).any (·.1) = false := by rfl) (hj : X.N[j]? = some y := by rfl) (hy : Loc X.env.scope y := by first | exact Or.inl rfl | exact Or.inr rfl)
    (hs : swapsWith (.Call (.Attribute (.Name x p1) "pop" ap) [a] [] cp) (some (.Name y p2)) pos.line X.env = pure false := by rfl) (hf : X.fn y = true ∨ X.env.scope.names.lookup y = some .local := by first | exact .inl rfl | exact .inr rfl) :
    PS X (.Assign [.Name y p2] (.Call (.Attribute (.Name x p1) "pop" ap) [a] [] cp) pos) (tS C (mPopAt i j ma)) :=
  (ps_set hN hj hy (pe_bm PySem.F.plainAttrs_list PySem.F.slot_list_pop PySem.F.type_list_pop mt_popAt (pv i hi hv hd hcd) (pa_cons ha pa_nil hse) hbase hfew hline hse hpl) hs hf).imp fun D σ H ⟨ρ, F, rp, q⟩ => by
    unfold mPopAt at q
    split at q
    · rename_i ds hh
      obtain ⟨p, xs, hsl, fp, hpp, z, i0⟩ := rp.lst hh
      rw [okR_bind] at q
      refine ⟨.ref p, hsl, .inl ⟨rfl, _, .of hpp⟩, ρ, F, rp, okR_mono q fun e _ q u F1 H1 e1 h1 => ?_⟩
      have h1 : Bor C.toBs F1 H1 u e := h1
      cases e with
      | int k =>
        have q : OkR (if 0 ≤ k ∧ k < ds.length then match ds[k.toNat]? with
          | some d => R.ok (Fl.nx ((ρ.set i (.ow (.list (ds.eraseIdx k.toNat)))).set j (.fr d)))
          | none => .st
          else .st) (FlOk C D F) C.wx := q
        split at q
        · rename_i hk
          split at q
          · rename_i d hd'
            cases h1.int
            have rp0 := rp.on e1
            have i1 := i0.mono e1.fr
            obtain ⟨v, hv', is⟩ := i1.getD hd'
            have hlen := i0.length
            have hpp1 := e1.all _ _ hpp
            have hkk : k.toNat < xs.length := by rw [hlen]; omega
            have rp1 := rp0.write hh hsl (o := .lst (xs.eraseIdx k.toNat)) (Own.lst upd_same (by rw [List.length_eraseIdx_of_lt hkk]; omega) (isAll_erase _ i1))
            refine ⟨p, xs, k, k.toNat, v, rfl, rfl, hpp1, by omega, by have := hk.2; have := line63; omega, seqIndex_of hk.1 (by rw [hlen]; exact hk.2), hv', ?_⟩
            exact q _ F1 _ (rp1.asg (M := .f) hp (Ext.refl rp1.sub) is) e1.fr
          · exact q.elim
        · exact q.elim
      | _ => exact q.elim
    · exact q.elim
end
/-! ### sorted(d) of a dict whose keys are texts -/
def keyStrs : List (PyData × PyData) → Option (List Str)
  | [] => some []
  | (.str x, _) :: r => (keyStrs r).map (x :: ·)
  | _ :: _ => none
def leS (a b : Str) : Bool := !ltCps b.cps.toList a.cps.toList
def srtS (xs : List Str) : List Str := xs.mergeSort leS
theorem leS_iff (a b : Str) : leS a b = true ↔ a.cps.toList ≤ b.cps.toList := by
  unfold leS
  rw [ltCps_eq]
  simp
theorem leS_trans (a b c : Str) : leS a b = true → leS b c = true → leS a c = true := by
  simp only [leS_iff]
  exact fun h1 h2 => List.le_trans h1 h2
theorem leS_total (a b : Str) : (leS a b || leS b a) = true := by
  rw [Bool.or_eq_true, leS_iff, leS_iff]
  exact List.le_total _ _
theorem leS_anti {a b : Str} (h1 : leS a b = true) (h2 : leS b a = true) : a = b := by
  rw [leS_iff] at h1 h2
  have := List.le_antisymm h1 h2
  exact Str.ext' (Array.toList_inj.mp this)
theorem perm_unique {xs ys : List Str} (hp : xs.Perm ys) (h1 : xs.Pairwise (fun a b => leS a b = true)) (h2 : ys.Pairwise (fun a b => leS a b = true)) : xs = ys := by
  induction xs generalizing ys with
  | nil => exact (List.nil_perm.mp hp).symm
  | cons x xs ih =>
    cases ys with
    | nil => exact absurd hp.length_eq (by simp)
    | cons y ys =>
      have hx : x ∈ y :: ys := hp.mem_iff.mp List.mem_cons_self
      have hy : y ∈ x :: xs := hp.mem_iff.mpr List.mem_cons_self
      have e : x = y := by
        rcases List.mem_cons.mp hx with e | hx
        · exact e
        · rcases List.mem_cons.mp hy with e | hy
          · exact e.symm
          · exact leS_anti ((List.pairwise_cons.mp h1).1 y hy) ((List.pairwise_cons.mp h2).1 x hx)
      subst e
      rw [ih (List.Perm.cons_inv hp) (List.pairwise_cons.mp h1).2 (List.pairwise_cons.mp h2).2]
theorem srtS_perm (xs : List Str) : (srtS xs).Perm xs := List.mergeSort_perm _ _
theorem srtS_sorted (xs : List Str) : (srtS xs).Pairwise (fun a b => leS a b = true) := List.pairwise_mergeSort leS_trans leS_total xs
theorem risingS_pw : ∀ (p : Str) (l : List Str), risingS p l = true → (p :: l).Pairwise (fun a b => leS a b = true)
  | p, [], _ => List.pairwise_singleton _ _
  | p, x :: r, h => by
    unfold risingS at h
    rw [Bool.and_eq_true] at h
    have ih := risingS_pw x r h.2
    refine List.pairwise_cons.mpr ⟨fun y hy => ?_, ih⟩
    rcases List.mem_cons.mp hy with rfl | hy
    · exact h.1
    · exact leS_trans _ _ _ h.1 ((List.pairwise_cons.mp ih).1 y hy)
theorem sortedS_pw {l : List Str} (h : sortedS l = true) : l.Pairwise (fun a b => leS a b = true) := by
  cases l with
  | nil => exact .nil
  | cons x r => exact risingS_pw x r h
theorem sorted_is {ys ks : List Str} (hp : ys.Perm ks) (hs : sortedS ys = true) : ys = srtS ks := perm_unique (hp.trans (srtS_perm ks).symm) (sortedS_pw hs) (srtS_sorted ks)
def gSortD : PyData → R PyData
  | .dict es => if isN es = true then .st else match keyStrs es with
    | some ks => if ks.length < 64 then .ok (.list ((srtS ks).map .str)) else .st
    | none => .st
  | _ => .st
theorem keyStrs_is {B : Bs} : ∀ {kvs : List (Key × V)} {es : List (PyData × PyData)} {ks : List Str}, IsKV B F kvs es → keyStrs es = some ks → kvs.map (·.1) = ks.map Sum.inr
  | _, _, _, .nil, h => by cases h; rfl
  | _, _, _, .cons (k := .inl i) h r, e => by cases e
  | _, _, _, .cons (k := .inr x) h r, e => by
    unfold keyD keyStrs at e
    obtain ⟨ks, e1, rfl⟩ := Option.map_eq_some_iff.mp e
    rw [List.map_cons, List.map_cons, keyStrs_is r e1]
theorem isAll_strs {B : Bs} : ∀ xs : List Str, IsAll B F (xs.map .str) (xs.map .str)
  | [] => .nil
  | x :: xs => .cons (.str x) (isAll_strs xs)
theorem sem_sortD : Sem1 C .o (fun xs H Q => ∃ (a : Addr) (kvs : List (Key × V)) (ks : List Str), xs = [.ref a] ∧ Rd H a (.dK kvs) ∧ kvs.map (·.1) = ks.map Sum.inr ∧ ks.length < 64 ∧
    ∀ ys p, ys.Perm ks → sortedS ys = true → H p = none → Q (.ref p) (upd H p (.lst (ys.map V.str)))) gSortD := by
  intro F H x d Q e0 h1 q
  unfold gSortD at q
  split at q
  · split at q
    · exact q.elim
    · rename_i es hn
      split at q
      · rename_i ks hks
        split at q
        · rename_i h64
          obtain ⟨a, kvs, rfl, hr, i⟩ := h1.dictK (by simpa using hn) e0.sub
          refine ⟨a, kvs, ks, rfl, hr, keyStrs_is i hks, h64, fun ys p hp hs hf => ?_⟩
          rw [sorted_is hp hs]
          exact q (.ref p) F _ (Ext.push e0.sub hf) ⟨p, rfl, hf, none_sub e0.sub hf, Own.lst upd_same (by rw [List.length_map, (srtS_perm ks).length_eq]; exact small_line (by omega)) (isAll_strs _)⟩
        · exact q.elim
      · exact q.elim
  · exact q.elim
end
end Pv

/-! Pv, part 12: displays of dicts, zip, length of a dict, str(int). -/
namespace Pv
open PySem PySem.Spec PyProof.Rows L2
section
variable {C : Cc} {X : Cx} {ρ : Env} {σ : L2.St} {F H F' H' : Hp} {v : V} {d : PyData} {M : Md} {a b c tg : Expr} {pos : Pos} {ma mb mc : Env → R PyData} {D : Ends}
/-! ### {k: v, ..} -/
def mPairs : List ((Env → R PyData) × (Env → R PyData)) → Env → R (List (Key × PyData))
  | [], _ => .ok []
  | (mk, mv) :: r, ρ => (mk ρ).bind fun k => (mv ρ).bind fun v => (mPairs r ρ).bind fun es => match eKey k with
    | some k => .ok ((k, v) :: es)
    | none => .st
def mDisp (ms : List ((Env → R PyData) × (Env → R PyData))) (ρ : Env) : R PyData := (mPairs ms ρ).bind fun es => .ok (.dict (es.foldl (fun acc p => dPutK acc p.1 p.2) []))
inductive PsIs (B : Bs) (F : Hp) : List (Key × V) → List (Key × PyData) → Prop
  | nil : PsIs B F [] []
  | cons {k : Key} {v : V} {d : PyData} {r : List (Key × V)} {es : List (Key × PyData)} : Is B F v d → PsIs B F r es → PsIs B F ((k, v) :: r) ((k, d) :: es)
theorem PsIs.mono {B : Bs} (s : Same F F') {r : List (Key × V)} {es : List (Key × PyData)} (h : PsIs B F r es) : PsIs B F' r es := by
  induction h with
  | nil => exact .nil
  | cons i _ ih => exact .cons (i.mono s) ih
theorem PsIs.len {B : Bs} {r : List (Key × V)} {es : List (Key × PyData)} (h : PsIs B F r es) : r.length = es.length := by
  induction h with
  | nil => rfl
  | cons i _ ih => rw [List.length_cons, List.length_cons, ih]
theorem PsIs.merge {B : Bs} {r : List (Key × V)} {es : List (Key × PyData)} (h : PsIs B F r es) : ∀ {kvs : List (Key × V)} {ds : List (PyData × PyData)}, IsKV B F kvs ds → IsKV B F (mergeK kvs r) (es.foldl (fun acc p => dPutK acc p.1 p.2) ds) := by
  induction h with
  | nil => intro kvs ds i; exact i
  | cons i _ ih => intro kvs ds j; exact ih (j.put i)
structure DP (C : Cc) (X : Cx) (pos : Pos) (keys : List (Option Expr)) (values : List Expr) (ms : List ((Env → R PyData) × (Env → R PyData))) : Prop where
  ex : ∃ trs, PPs X pos keys values trs ∧ ∀ (σ : L2.St) (H : Hp) (Q : List (V × V) → Hp → Prop) (ρ : Env) (F : Hp), Rep C.toCb ρ σ F H → OkR (mPairs ms ρ) (fun es => ∀ kvs F' H', Ext F H F' H' → PsIs C.toBs F' kvs es → Q (kvs.map fun kv => (kV kv.1, kv.2)) H') C.wx → tPairs trs σ H Q
theorem d_nil : DP C X pos [] [] [] := ⟨[], pps_nil, fun σ H Q ρ F rp q => q [] F H (Ext.refl rp.sub) .nil⟩
theorem d_cons {ks : List (Option Expr)} {vs : List Expr} {ms : List ((Env → R PyData) × (Env → R PyData))} (ha : PE X a (tM C .b ma)) (hb : PE X b (tM C .f mb)) (hr : DP C X pos ks vs ms) : DP C X pos (some a :: ks) (b :: vs) ((ma, mb) :: ms) := by
  obtain ⟨trs, hp, h⟩ := hr.ex
  refine ⟨_, pps_cons ha hb hp, fun σ H Q ρ F rp q => ?_⟩
  unfold mPairs at q
  rw [okR_bind] at q
  refine ⟨ρ, F, rp, okR_mono q fun d _ q x F1 H1 e1 h1 => ?_⟩
  rw [okR_bind] at q
  refine ⟨ρ, F1, rp.on e1, okR_mono q fun e _ q y F2 H2 e2 h2 => ?_⟩
  rw [okR_bind] at q
  have e12 := e1.trans e2
  refine h σ H2 _ ρ F2 (rp.on e12) (okR_mono q fun es _ q kvs F3 H3 e3 hs => ?_)
  have h1 : Bor C.toBs F1 H1 x d := h1
  have h2 : Is C.toBs F2 y e := h2
  split at q
  · rename_i k hk
    have := h1.key hk
    subst this
    exact q ((k, y) :: kvs) F3 H3 (e12.trans e3) (.cons (h2.mono e3.fr) hs)
  · exact q.elim
theorem e_disp {keys : List (Option Expr)} {values : List Expr} {ms : List ((Env → R PyData) × (Env → R PyData))} (h : DP C X pos keys values ms) (hall : keys.all (·.isSome) = true := by rfl) (hl : keys.length = values.length := by rfl) (h0 : keys ≠ [] := by exact fun z => nomatch z)
    (h15 : keys.length ≤ 15 := by decide) (hm : ms.length ≤ 15 := by decide) : PE X (.Dict keys values pos) (tM C .o (mDisp ms)) := by
  obtain ⟨trs, hp, h⟩ := h.ex
  refine (pe_disp hp hall hl h0 h15).imp fun σ H Q ⟨ρ, F, rp, q⟩ p hf => ?_
  unfold mDisp at q
  rw [okR_bind] at q
  have e0 := Ext.push (o := .dK []) rp.sub hf
  have hlen : ∀ (ms : List ((Env → R PyData) × (Env → R PyData))) (es : List (Key × PyData)), mPairs ms ρ = .ok es → es.length = ms.length := by
    intro ms
    induction ms with
    | nil => intro es e; cases e; rfl
    | cons m ms ih =>
      obtain ⟨mk, mv⟩ := m
      intro es e
      unfold mPairs at e
      cases e1 : mk ρ with
      | ok k =>
        cases e2 : mv ρ with
        | ok v =>
          cases e3 : mPairs ms ρ with
          | ok es' =>
            rw [e1, e2, e3] at e
            have e : (match eKey k with | some k => R.ok ((k, v) :: es') | none => R.st) = .ok es := e
            split at e
            · cases e
              rw [List.length_cons, List.length_cons, ih es' e3]
            · cases e
          | ex x => rw [e1, e2, e3] at e; cases e
          | st => rw [e1, e2, e3] at e; cases e
        | ex x => rw [e1, e2] at e; cases e
        | st => rw [e1, e2] at e; cases e
      | ex x => rw [e1] at e; cases e
      | st => rw [e1] at e; cases e
  refine h σ _ _ ρ F (rp.on e0) (okR_mono q fun es he q kvs F' H' e1 hs => ?_)
  have hp' : H' p = some (.dK []) := e1.all _ _ upd_same
  have fp : F' p = none := e1.none (none_sub rp.sub hf) upd_same
  refine ⟨hp', kvs, rfl, by rw [hs.len, hlen ms es he]; exact hm, ?_⟩
  have sub : Same F' (upd H' p (.dK (mergeK [] kvs))) := same_updR e1.sub fp
  refine q (.ref p) F' _ ⟨(e0.trans e1).fr, same_updR (e0.trans e1).all hf, sub, (e0.trans e1).new⟩ ⟨p, rfl, hf, fp, Own.dK upd_same (hs.merge .nil)⟩
/-! ### zip of two lists, or of two tuples -/
def pairD : List PyData → List PyData → List PyData
  | x :: xs, y :: ys => .tuple [x, y] :: pairD xs ys
  | _, _ => []
def mZip (ma mb : Env → R PyData) (ρ : Env) : R (List PyData) := (ma ρ).bind fun d => (mb ρ).bind fun e => match d, e with
  | .list xs, .list ys => .ok (pairD xs ys)
  | .tuple xs, .tuple ys => .ok (pairD xs ys)
  | _, _ => .st
theorem pairD_len : ∀ xs ys : List PyData, (pairD xs ys).length = min xs.length ys.length
  | [], _ => by simp [pairD]
  | _ :: _, [] => by simp [pairD]
  | x :: xs, y :: ys => by simp only [pairD, List.length_cons, pairD_len xs ys]; omega
theorem pairD_get : ∀ {xs ys : List PyData} {k : Nat} {x y : PyData}, xs[k]? = some x → ys[k]? = some y → (pairD xs ys)[k]? = some (.tuple [x, y])
  | x :: xs, y :: ys, 0, _, _, h1, h2 => by cases h1; cases h2; rfl
  | x :: xs, y :: ys, k + 1, _, _, h1, h2 => pairD_get (xs := xs) (ys := ys) (k := k) h1 h2
  | [], _, _, _, _, h1, _ => by simp at h1
  | _ :: _, [], _, _, _, _, h2 => by simp at h2
theorem itD_zip {G F1 : Hp} {a b : Addr} {xs ys : List V} {ds es : List PyData} (h1 : SqL C.K F1 a xs) (h2 : SqL C.K F1 b ys) (i1 : IsAll C.toBs F1 xs ds) (i2 : IsAll C.toBs F1 ys es) : ItD C (Itz C.K a b) (pairD ds es) F1 G where
  turn := fun k F H hk e0 sF sG => by
    rw [pairD_len] at hk
    have l1 := same_sqL (sF.trans e0.sub) h1
    have l2 := same_sqL (sF.trans e0.sub) h2
    have k1 : k < xs.length := by rw [i1.length]; omega
    have k2 : k < ys.length := by rw [i2.length]; omega
    refine ⟨⟨xs, ys, xs[k], ys[k], l1, l2, List.getElem?_eq_getElem k1, List.getElem?_eq_getElem k2⟩, fun v H' hy => ?_⟩
    obtain ⟨T, x, y, rfl, hT, rfl, hx, hy⟩ := hy
    obtain ⟨d, hd, is⟩ := i1.get (hx xs l1)
    obtain ⟨e, he, js⟩ := i2.get (hy ys l2)
    have ex := Ext.frz (o := .tup [x, y]) e0.sub hT
    exact ⟨.tuple [d, e], _, pairD_get hd he, ex, .tup (.of upd_same) (small_line (by simp)) (.cons (is.mono (sF.trans ex.fr)) (.cons (js.mono (sF.trans ex.fr)) .nil))⟩
  stop := fun F H e0 sF sG => by
    refine ⟨xs, ys, same_sqL (sF.trans e0.sub) h1, same_sqL (sF.trans e0.sub) h2, ?_⟩
    rw [pairD_len, i1.length, i2.length]
    omega
theorem itD_zipT {G F1 : Hp} {a b : Addr} {xs ys : List V} {ds es : List PyData} (h1 : SqT C.K F1 a xs) (h2 : SqT C.K F1 b ys) (i1 : IsAll C.toBs F1 xs ds) (i2 : IsAll C.toBs F1 ys es) : ItD C (RZ.ItzT C.K a b) (pairD ds es) F1 G where
  turn := fun k F H hk e0 sF sG => by
    rw [pairD_len] at hk
    have l1 := same_sqT (sF.trans e0.sub) h1
    have l2 := same_sqT (sF.trans e0.sub) h2
    have k1 : k < xs.length := by rw [i1.length]; omega
    have k2 : k < ys.length := by rw [i2.length]; omega
    refine ⟨⟨xs, ys, xs[k], ys[k], l1, l2, List.getElem?_eq_getElem k1, List.getElem?_eq_getElem k2⟩, fun v H' hy => ?_⟩
    obtain ⟨T, x, y, rfl, hT, rfl, hx, hy⟩ := hy
    obtain ⟨d, hd, is⟩ := i1.get (hx xs l1)
    obtain ⟨e, he, js⟩ := i2.get (hy ys l2)
    have ex := Ext.frz (o := .tup [x, y]) e0.sub hT
    exact ⟨.tuple [d, e], _, pairD_get hd he, ex, .tup (.of upd_same) (small_line (by simp)) (.cons (is.mono (sF.trans ex.fr)) (.cons (js.mono (sF.trans ex.fr)) .nil))⟩
  stop := fun F H e0 sF sG => by
    refine ⟨xs, ys, same_sqT (sF.trans e0.sub) h1, same_sqT (sF.trans e0.sub) h2, ?_⟩
    rw [pairD_len, i1.length, i2.length]
    omega
theorem i_zip {sb : Bool} {p tpos : Pos} {elts : List Expr} {kk : Nat} (hB : On C X) (hm : X.mg "zip" = none) (ha : PE X a (tM C .f ma)) (hb : PE X b (tM C .f mb)) (hg : Gl X "zip" := by rfl) (hs : starEach [a, b] X.env = (false, eval a X.env) :: starEach [b] X.env := by rfl)
    (hs2 : starEach [b] X.env = (false, eval b X.env) :: starEach [] X.env := by rfl) (hpl : (backTo pos (starEach [b] X.env)).any (·.1) = false := by rfl) : PI X (.Tuple elts kk tpos) (.Call (.Name "zip" p) [a, b] [] pos) (tI C sb (mZip ma mb)) :=
  (RZ.pi_zipA hg hm (pa_cons ha (pa_cons hb pa_nil hs2) hs) hs hpl).imp fun σ H R ⟨ρ, F, rp, q⟩ => by
    unfold mZip at q
    rw [okR_bind] at q
    refine ⟨ρ, F, rp, okR_mono q fun d _ q v F1 H1 e1 h1 => ?_⟩
    rw [okR_bind] at q
    refine ⟨ρ, F1, rp.on e1, okR_mono q fun e _ q u F2 H2 e2 h2 => ?_⟩
    have h1 : Is C.toBs F2 v d := Is.mono e2.fr h1
    have h2 : Is C.toBs F2 u e := h2
    have e12 := e1.trans e2
    have sub := (rp.ext.trans e12).sub
    rw [← hB.K]
    split at q
    · cases h1 with
      | lst l1 z1 i1 =>
        cases h2 with
        | lst l2 z2 i2 =>
          have key := q (by rw [pairD_len, ← i1.length]; omega) (Itz C.K _ _) F2 H2 e12 (itD_zip (.of l1) (.of l2) i1 i2)
          exact ⟨_, _, _, _, rfl, .inl ⟨.of (sub _ _ l1), .of (sub _ _ l2), key⟩⟩
    · cases h1 with
      | tup l1 z1 i1 =>
        cases h2 with
        | tup l2 z2 i2 =>
          have key := q (by rw [pairD_len, ← i1.length]; omega) (RZ.ItzT C.K _ _) F2 H2 e12 (itD_zipT l1 l2 i1 i2)
          exact ⟨_, _, _, _, rfl, .inr ⟨same_sqT sub l1, same_sqT sub l2, key⟩⟩
    · exact q.elim
end
end Pv

/-! Pv, part 13: dict(zip(xs, ys)). -/
namespace Pv
open PySem PySem.Spec PyProof.Rows L2
/-- keys of a list: texts and whole numbers -/
def rDZ (K : PySem.W.Frag) : List V → Hp → VK → Prop := fun vs H Q => ∃ (a b : Addr) (ks : List Key) (ys : List V), vs = [.ref a, .ref b] ∧ SqL K H a (ks.map kV) ∧ SqL K H b ys ∧ ∀ p, H p = none → Q (.ref p) (upd H p (.dK (mergeK [] (ks.zip ys))))
theorem kv_zip {P : Program} {w : World} : ∀ {ks : List Key} {ys : List V} {us vs : List Value}, Vals (ks.map kV) us → Vals ys vs → ∃ kvs : List (Key × Value), KV (ks.zip ys) kvs ∧ kvs.length = min us.length vs.length ∧ ∀ (i : Nat) (k v : Value), us[i]? = some k → vs[i]? = some v → ∃ q, kvs[i]? = some (q, v) ∧ (mixKind P w).is q k = true
  | [], ys, us, vs, hu, hv => by
    cases hu
    exact ⟨[], by rw [List.zip_nil_left]; exact .nil, by simp, fun i k v h => by simp at h⟩
  | k :: ks, ys, us, vs, hu, hv => by
    cases hv with
    | nil => exact ⟨[], by rw [List.zip_nil_right]; exact .nil, by simp, fun i k v _ h => by simp at h⟩
    | @cons y v ys vs ry hv =>
      rw [List.map_cons] at hu
      cases hu with
      | @cons x u xs us rx hu =>
        obtain ⟨kvs, h1, h2, h3⟩ := kv_zip (P := P) (w := w) hu hv
        refine ⟨(k, v) :: kvs, by rw [List.zip_cons_cons]; exact .cons ⟨rfl, ry⟩ h1, by simp only [List.length_cons, h2]; omega, fun i k' v' e1 e2 => ?_⟩
        cases i with
        | zero =>
          cases e1; cases e2
          exact ⟨k, rfl, kV_is rx⟩
        | succ i => exact h3 i k' v' e1 e2
theorem pe_dictZip {X : Cx} {e e2 : Expr} {ta : TA} {p p2 pos pos2 : Pos} (hc : X.calm = true) (hg : Gl X "dict") (hm : X.mg "dict" = none) (hg2 : Gl X "zip") (hm2 : X.mg "zip" = none) (ha : PA X [e, e2] ta)
    (hs : starEach [e, e2] X.env = (false, eval e X.env) :: starEach [e2] X.env := by rfl) (hpl : (backTo pos2 (starEach [e2] X.env)).any (·.1) = false := by rfl)
    (hs0 : starEach [.Call (.Name "zip" p2) [e, e2] [] pos2] X.env = (false, eval (.Call (.Name "zip" p2) [e, e2] [] pos2) X.env) :: starEach [] X.env := by rfl) (hpl0 : (backTo pos (starEach [] X.env)).any (·.1) = false := by rfl) :
    PE X (.Call (.Name "dict" p) [.Call (.Name "zip" p2) [e, e2] [] pos2] [] pos) (tCB (rDZ X.K) ta) := by
  refine ⟨fun pins s σ H Q I h => ?_⟩
  refine wpAny_Call_Name_kw (ld_blt I hg hm PyProof.Rows.boot_dict ?_ (by decide) (by decide))
  refine PyProof.Rows.callWith_type1 ?_ hs0 hpl0
  rw [hs0]
  have hb0 : backTo pos (starEach [] X.env) = [] := by
    have : starEach [] X.env = [] := rfl
    rw [this]; rfl
  show wpAny _ _ (spliced ((false, eval (.Call (.Name "zip" p2) [e, e2] [] pos2) X.env) :: backTo pos (starEach [] X.env))) _ _ s
  rw [hb0]
  refine Calls.spliced_cons ?_
  refine wpAny_Call_Name_kw (ld_blt I hg2 hm2 PyProof.Rows.boot_zip ?_ (by decide) (by decide))
  refine PyProof.Rows.callWith_type1 (thn (ha.run pos2 pins s σ H _ I h) fun us s1 ⟨vs, H1, I1, r1, q1⟩ => ?_) hs hpl
  obtain ⟨a, b, ks, ys, ex, hq1, hq2, q⟩ := q1
  subst ex
  cases r1 with
  | cons r rr =>
    cases rr with
    | cons r' rr =>
      cases rr
      cases r
      cases r'
      obtain ⟨its, rv, p1, z1⟩ := I1.list hq1
      obtain ⟨its2, rv2, p2, z2⟩ := I1.list hq2
      have la : a < s1.heap.objs.size := p1.lt
      have lb : b < s1.heap.objs.size := p2.lt
      refine PySem.call_zip_2 p1.isList p2.isList fun h' hz hTI hTO h1 h2 hsz hk => Calls.spliced_nil ?_
      obtain ⟨kvs, kv1, kv2, kv3⟩ := kv_zip (P := X.prog) (w := X.w) rv rv2
      have hzl : kvs.length ≤ sizeLine := by
        rw [← KV.length kv1, List.length_zip]
        rw [List.length_map] at z1
        omega
      refine PySem.call_dict_pairs (prog := X.prog) (w := X.w) (knd := mixKind X.prog X.w) (kvs := kvs) (PairArg.zip _ _ _ _ _ a b (PySem.W.ktu_apart s1.heap.objs.size a b la lb) its.toArray its2.toArray) (I1.ok.hd hc)
        ⟨hz, hTI, ⟨_, _, hTO⟩, h1, h2, p1.isList.at fun o e => hk _ o e, p2.isList.at fun o e => hk _ o e⟩ ⟨by simpa using kv2, fun i k v hr => kv3 i k v (by simpa using hr.1) (by simpa using hr.2)⟩ (by simpa using kv2 ▸ hzl) fun h2' tk hd hk2 => ?_
      have hle : s1.heap.objs.size ≤ h'.objs.size := by rw [hsz]; exact Nat.le_add_right _ _
      have hm0 : (h'.objs.size == sysModules) = false := beq_eq_false_iff_ne.mpr (Nat.ne_of_gt (Nat.lt_of_lt_of_le I1.big hle))
      have hz3 : (mergeK [] (ks.zip ys)).length ≤ sizeLine := by
        have h1 := length_mergeK (ks.zip ys) []
        rw [List.length_nil, List.length_zip] at h1
        rw [List.length_map] at z1
        omega
      refine ⟨.ref h'.objs.size, upd H1 h'.objs.size (.dK (mergeK [] (ks.zip ys))), I1.laid (t' := tk) (fun c o e' => hk2 c o (fun hc => ?_) (hk c o e')) hle (show ObjOk X.prog X.w _ _ _ (.dK _) from ⟨hz3, hm0, _, kv1.merge .nil, hd⟩), rfl, q _ (I1.hok.fresh hle)⟩
      have hlt := Heap.lt_size e'
      have e2 : c = s1.heap.objs.size + 4 ∨ c = s1.heap.objs.size + 3 ∨ c = s1.heap.objs.size ∨ c = s1.heap.objs.size + 1 := by simpa using hc
      rcases e2 with z | z | z | z
      · rw [z] at hlt; exact absurd hlt (Nat.not_lt.mpr (Nat.le_add_right _ _))
      · rw [z] at hlt; exact absurd hlt (Nat.not_lt.mpr (Nat.le_add_right _ _))
      · rw [z] at hlt; exact absurd hlt (Nat.lt_irrefl _)
      · rw [z] at hlt; exact absurd hlt (Nat.not_lt.mpr (Nat.le_add_right _ _))
section
variable {C : Cc} {X : Cx} {ρ : Env} {σ : L2.St} {F H F' H' : Hp} {v : V} {d : PyData} {M : Md} {a b c tg : Expr} {pos pos2 p p2 : Pos} {ma mb mc : Env → R PyData} {D : Ends}
def eKeys : List PyData → Option (List Key)
  | [] => some []
  | d :: r => match eKey d, eKeys r with
    | some k, some ks => some (k :: ks)
    | _, _ => none
theorem eKeys_is {B : Bs} : ∀ {vs : List V} {ds : List PyData} {ks : List Key}, IsAll B F vs ds → eKeys ds = some ks → vs = ks.map kV
  | _, _, _, .nil, e => by cases e; rfl
  | _, _, ks, .cons (d := d) (ds := ds) h r, e => by
    unfold eKeys at e
    split at e
    · rename_i k ks' h1 h2
      cases e
      rw [List.map_cons, Bor.key (H := F) (.inl h) h1, eKeys_is r h2]
    · cases e
def mDictZip (ma mb : Env → R PyData) (ρ : Env) : R PyData := (ma ρ).bind fun d => (mb ρ).bind fun e => match d, e with
  | .list xs, .list ys => match eKeys xs with
    | some ks => .ok (.dict ((ks.zip ys).foldl (fun acc p => dPutK acc p.1 p.2) []))
    | none => .st
  | _, _ => .st
theorem psIs_zip {B : Bs} : ∀ {ks : List Key} {vs : List V} {ds : List PyData}, IsAll B F vs ds → PsIs B F (ks.zip vs) (ks.zip ds)
  | [], _, _, _ => .nil
  | _ :: _, _, _, .nil => .nil
  | _ :: _, _, _, .cons h r => .cons h (psIs_zip r)
theorem e_dictZip (hB : On C X) (hc : X.calm = true) (hm : X.mg "dict" = none) (hm2 : X.mg "zip" = none) (ha : PE X a (tM C .b ma)) (hb : PE X b (tM C .b mb)) (hg : Gl X "dict" := by rfl) (hg2 : Gl X "zip" := by rfl)
    (hs : starEach [a, b] X.env = (false, eval a X.env) :: starEach [b] X.env := by rfl) (hs2 : starEach [b] X.env = (false, eval b X.env) :: starEach [] X.env := by rfl) (hpl : (backTo pos2 (starEach [b] X.env)).any (·.1) = false := by rfl)
    (hs0 : starEach [.Call (.Name "zip" p2) [a, b] [] pos2] X.env = (false, eval (.Call (.Name "zip" p2) [a, b] [] pos2) X.env) :: starEach [] X.env := by rfl) (hpl0 : (backTo pos (starEach [] X.env)).any (·.1) = false := by rfl) :
    PE X (.Call (.Name "dict" p) [.Call (.Name "zip" p2) [a, b] [] pos2] [] pos) (tM C .o (mDictZip ma mb)) :=
  (pe_dictZip hc hg hm hg2 hm2 (pa_cons ha (pa_cons hb pa_nil hs2) hs) hs hpl hs0 hpl0).imp fun σ H Q ⟨ρ, F, rp, q⟩ => by
    unfold mDictZip at q
    rw [okR_bind] at q
    refine ⟨ρ, F, rp, okR_mono q fun d _ q v F1 H1 e1 h1 => ?_⟩
    rw [okR_bind] at q
    refine ⟨ρ, F1, rp.on e1, okR_mono q fun e _ q u F2 H2 e2 h2 => ?_⟩
    have h1 : Bor C.toBs F2 H2 v d := Bor.mono e2.fr e2.all h1
    have h2 : Bor C.toBs F2 H2 u e := h2
    have e12 := e1.trans e2
    have sub := (rp.ext.trans e12).sub
    split at q
    · split at q
      · rename_i ks hk
        obtain ⟨p, xs, rfl, l1, z1, i1⟩ := h1.list sub
        obtain ⟨p', ys, rfl, l2, z2, i2⟩ := h2.list sub
        have := eKeys_is i1 hk
        subst this
        refine ⟨p, p', ks, ys, rfl, by rw [← hB.K]; exact l1, by rw [← hB.K]; exact l2, fun t ht => ?_⟩
        refine q (.ref t) F2 _ (e12.trans (Ext.push sub ht)) ⟨t, rfl, e12.all.free ht, none_sub sub ht, Own.dK upd_same ((psIs_zip (ks := ks) i2).merge .nil)⟩
      · exact q.elim
    · exact q.elim
/-! ### len of a dict, str(int) -/
theorem call_lenR {X : Cx} : CallR X (.builtin "len") (fun xs H Q => ∃ a kvs, xs = [V.ref a] ∧ Rd H a (.dK kvs) ∧ Q (.int kvs.length) H) := by
  intro pins s σ H xs us Q I r q
  obtain ⟨a, kvs, ex, hd, q⟩ := q
  subst ex
  obtain ⟨u, eu, rx⟩ := vals1 r
  subst eu
  cases rx
  exact d_len I hd fun t s' I' => ⟨.int kvs.length, H, I', ⟨_, rfl⟩, q⟩
def gLenD : PyData → R PyData
  | .dict es => if isN es = true then .st else .ok (.int es.length)
  | _ => .st
theorem sem_lenD : Sem1 C .f (fun xs H Q => ∃ a kvs, xs = [V.ref a] ∧ Rd H a (.dK kvs) ∧ Q (.int kvs.length) H) gLenD := by
  intro F H x d Q e0 h1 q
  unfold gLenD at q
  split at q
  · split at q
    · exact q.elim
    · rename_i es hn
      obtain ⟨a, kvs, rfl, hr, i⟩ := h1.dictK (by simpa using hn) e0.sub
      exact ⟨a, kvs, rfl, hr, by rw [i.length]; exact q _ F H (Ext.refl e0.sub) (.int _)⟩
  · exact q.elim
def gStr : PyData → R PyData
  | .int i => if i.natAbs.log2 < 1920 then .ok (.str (toString i)) else .st
  | _ => .st
theorem sem_str : Sem1 C .f (fun xs H Q => ∃ i, xs = [.int i] ∧ i.natAbs.log2 < 1920 ∧ Q (.str (toString i)) H) gStr := by
  intro F H x d Q e0 h1 q
  unfold gStr at q
  split at q
  · split at q
    · rename_i hl
      cases h1.int
      exact ⟨_, rfl, hl, q _ F H (Ext.refl e0.sub) (.str _)⟩
    · exact q.elim
  · exact q.elim
end
end Pv

/-! Px: rules to work out the pure side. -/
namespace Pv
open PySem PySem.W L2
section
variable {α β γ : Type} {ρ : Env} {k : α → Prop} {w : Xn → Prop} {ma mb mc : Env → R PyData} {ta tb : Env → R Bool} {m n : Env → R Fl} {g : PyData → PyData → R PyData} {gb : PyData → PyData → R Bool} {g1 : PyData → R PyData}

@[simp] theorem bind_okE {a : α} {f : α → R β} : (R.ok a).bind f = f a := (rfl)
@[simp] theorem bind_exE {x : Xn} {f : α → R β} : (R.ex x : R α).bind f = .ex x := (rfl)
@[simp] theorem bind_stE {f : α → R β} : (R.st : R α).bind f = .st := (rfl)
@[simp] theorem bind_assocE {r : R α} {f : α → R β} {h : β → R γ} : (r.bind f).bind h = r.bind fun a => (f a).bind h := by cases r <;> rfl
@[simp] theorem okR_okE {a : α} : OkR (.ok a) k w ↔ k a := Iff.rfl
@[simp] theorem okR_exE {x : Xn} : OkR (.ex x : R α) k w ↔ w x := Iff.rfl
@[simp] theorem okR_stE : OkR (.st : R α) k w ↔ False := Iff.rfl
@[simp] theorem okR_iteE {c : Prop} [Decidable c] {a b : R α} : OkR (if c then a else b) k w ↔ (c → OkR a k w) ∧ (¬c → OkR b k w) := by
  by_cases h : c
  · rw [if_pos h]; exact ⟨fun z => ⟨fun _ => z, fun n => (n h).elim⟩, fun z => z.1 h⟩
  · rw [if_neg h]; exact ⟨fun z => ⟨fun n => (h n).elim, fun _ => z⟩, fun z => z.2 h⟩
@[simp] theorem bind_iteS {c : Prop} [Decidable c] {a : R α} {f : α → R β} : (if c then a else .st).bind f = if c then a.bind f else .st := by
  by_cases h : c
  · rw [if_pos h, if_pos h]
  · rw [if_neg h, if_neg h]; rfl
@[simp high] theorem okR_iteS {c : Prop} [Decidable c] {a : R α} : OkR (if c then a else .st) k w ↔ c ∧ OkR a k w := by
  by_cases h : c
  · rw [if_pos h]; exact ⟨fun z => ⟨h, z⟩, fun z => z.2⟩
  · rw [if_neg h]; exact ⟨fun z => z.elim, fun z => (h z.1).elim⟩
@[simp] theorem okR_iteB {c : Prop} [Decidable c] {a b : R β} {f : β → R α} : OkR ((if c then a else b).bind f) k w ↔ (c → OkR (a.bind f) k w) ∧ (¬c → OkR (b.bind f) k w) := by
  by_cases h : c
  · rw [if_pos h]; exact ⟨fun z => ⟨fun _ => z, fun n => (n h).elim⟩, fun z => z.1 h⟩
  · rw [if_neg h]; exact ⟨fun z => ⟨fun n => (h n).elim, fun _ => z⟩, fun z => z.2 h⟩
theorem eq_ok {r : R α} {a : α} : r = .ok a ↔ OkR r (fun b => b = a) (fun _ => False) := by
  cases r with
  | ok b => exact ⟨fun e => by cases e; rfl, fun e => congrArg R.ok e⟩
  | ex x => exact ⟨fun e => (by cases e), fun e => e.elim⟩
  | st => exact ⟨fun e => (by cases e), fun e => e.elim⟩
theorem okR_ex {r : R α} {k : α → Prop} (h : OkR r k (fun _ => False)) : ∃ a, r = .ok a ∧ k a := by
  cases r with
  | ok a => exact ⟨a, rfl, h⟩
  | ex x => exact h.elim
  | st => exact h.elim
theorem okR_of {r : R α} {a : α} (e : r = .ok a) (h : k a) : OkR r k w := by subst e; exact h

@[simp] theorem mVar_e {i : Nat} : mVar i ρ = match ρ[i]? with | some (.fr d) => .ok d | _ => .st := (rfl)
@[simp] theorem mVarB_e {i : Nat} : mVarB i ρ = match ρ[i]? with | some (.fr d) => .ok d | some (.ow d) => .ok d | some (.bo d) => .ok d | _ => .st := (rfl)
@[simp] theorem mVarS_e {i : Nat} : mVarS i ρ = match ρ[i]? with | some (.fr d) => .ok d | some (.bo d) => .ok d | _ => .st := (rfl)
@[simp] theorem mC_e {d : PyData} : mC d ρ = .ok d := (rfl)
@[simp] theorem m2_e : m2 g ma mb ρ = (ma ρ).bind fun d => (mb ρ).bind fun e => g d e := (rfl)
@[simp] theorem m1_e : m1 g1 ma ρ = (ma ρ).bind g1 := (rfl)
@[simp] theorem boolD_e {d e : PyData} : boolD gb d e = (gb d e).bind fun b => .ok (.bool b) := (rfl)
@[simp] theorem mT2_e : mT2 gb ma mb ρ = (ma ρ).bind fun d => (mb ρ).bind fun e => gb d e := (rfl)
@[simp] theorem mTru_e : mTru ma ρ = (ma ρ).bind gTru := (rfl)
@[simp] theorem mNot_e : mNot ta ρ = (ta ρ).bind fun b => .ok (!b) := (rfl)
@[simp] theorem mAnd_e : mAnd ta tb ρ = (ta ρ).bind fun b => if b = true then tb ρ else .ok false := (rfl)
@[simp] theorem mOr_e : mOr ta tb ρ = (ta ρ).bind fun b => if b = true then .ok true else tb ρ := (rfl)
@[simp] theorem mAndV_e : mAndV ma mb ρ = (ma ρ).bind fun d => match d with | .bool true => mb ρ | .bool false => .ok (.bool false) | _ => .st := (rfl)
@[simp] theorem mOrV_e : mOrV ma mb ρ = (ma ρ).bind fun d => match d with | .bool true => .ok (.bool true) | .bool false => mb ρ | _ => .st := (rfl)
@[simp] theorem mNotV_e : mNotV ma ρ = (ma ρ).bind fun d => match d with | .bool b => .ok (.bool (!b)) | _ => .st := (rfl)
@[simp] theorem mChn_e {g g' : PyData → PyData → R Bool} : mChn g g' ma mb mc ρ = (ma ρ).bind fun d => (mb ρ).bind fun e => (g d e).bind fun k => if k = true then (mc ρ).bind fun f => g' e f else .ok false := (rfl)
@[simp] theorem mAll_nil_e : mAll [] ρ = .ok [] := (rfl)
@[simp] theorem mAll_cons_e {ms : List (Env → R PyData)} : mAll (ma :: ms) ρ = (ma ρ).bind fun d => (mAll ms ρ).bind fun ds => .ok (d :: ds) := (rfl)
@[simp] theorem mTup_e {ms : List (Env → R PyData)} : mTup ms ρ = (mAll ms ρ).bind fun ds => .ok (.tuple ds) := (rfl)
@[simp] theorem mLst_e {ms : List (Env → R PyData)} : mLst ms ρ = (mAll ms ρ).bind fun ds => .ok (.list ds) := (rfl)
@[simp] theorem mCall_e {f : List PyData → R PyData} {ms : List (Env → R PyData)} : mCall f ms ρ = (mAll ms ρ).bind f := (rfl)
@[simp] theorem mSeq_e : mSeq m n ρ = (m ρ).bind fun fl => match fl with | .nx ρ' => n ρ' | .ct ρ' => .ok (.ct ρ') | .bk ρ' => .ok (.bk ρ') | .rt d ρ' => .ok (.rt d ρ') := (rfl)
@[simp] theorem mNext_e : mNext ρ = .ok (.nx ρ) := (rfl)
@[simp] theorem mCont_e : mCont ρ = .ok (.ct ρ) := (rfl)
@[simp] theorem mIf_e : mIf ta m n ρ = (ta ρ).bind fun b => if b = true then m ρ else n ρ := (rfl)
@[simp] theorem mRet_e : mRet ma ρ = (ma ρ).bind fun d => .ok (.rt d ρ) := (rfl)
@[simp] theorem mRetO_e {i : Nat} : mRetO i ρ = match ρ[i]? with | some (.ow d) => .ok (.rt d ρ) | _ => .st := (rfl)
@[simp] theorem mSet_e {i : Nat} {M : Md} : mSet i M ma ρ = (ma ρ).bind fun d => .ok (.nx (ρ.set i (slotOf M d))) := (rfl)
@[simp] theorem slotF {d : PyData} : slotOf .f d = .fr d := (rfl)
@[simp] theorem slotO {d : PyData} : slotOf .o d = .ow d := (rfl)
@[simp] theorem slotS {d : PyData} : slotOf .s d = .bo d := (rfl)
@[simp] theorem mFrz_e {i : Nat} : mFrz i m ρ = m (match ρ[i]? with | some (.ow d) => ρ.set i (.fr d) | _ => ρ) := (rfl)
@[simp] theorem mtName_e {i : Nat} {d : PyData} : mtName i d ρ = .ok (ρ.set i (.fr d)) := (rfl)
@[simp] theorem mtNil_e : mtNil [] ρ = .ok ρ := (rfl)
@[simp] theorem mtCons_e {t : PyData → Env → R Env} {r : List PyData → Env → R Env} {d : PyData} {ds : List PyData} : mtCons t r (d :: ds) ρ = (t d ρ).bind fun ρ' => r ds ρ' := (rfl)
@[simp] theorem mtTup_e {n : Nat} {t : List PyData → Env → R Env} {ds : List PyData} : mtTup n t (.tuple ds) ρ = if ds.length = n then t ds ρ else .st := (rfl)
@[simp] theorem mAsg_e {t : PyData → Env → R Env} : mAsg t ma ρ = (ma ρ).bind fun d => (t d ρ).bind fun ρ' => .ok (.nx ρ') := (rfl)
@[simp] theorem mItems_e : mItems ma ρ = (ma ρ).bind gItems := (rfl)
@[simp] theorem mRng1_e : mRng1 ma ρ = (ma ρ).bind fun d => match d with | .int j => if -16777216 ≤ j ∧ j ≤ 16777216 then .ok (rgD 0 j.toNat) else .st | _ => .st := (rfl)
@[simp] theorem mFor_e {mi : Env → R (List PyData)} {mt : PyData → Env → R Env} : mFor mi mt m ρ = (mi ρ).bind fun ds => forD mt m ds ρ := (rfl)
@[simp] theorem mLc_e {vs : List Nat} {mi : Env → R (List PyData)} {mt : PyData → Env → R Env} : mLc vs mi mt ta ma ρ = (mi ρ).bind fun ds => (compD mt ta ma (wipeE ρ vs) ds).bind fun ys => .ok (.list ys) := (rfl)
@[simp] theorem mYes_e : mYes ρ = .ok true := (rfl)
@[simp] theorem wipeE_nil : wipeE ρ [] = ρ := (rfl)
@[simp] theorem wipeE_cons {v : Nat} {vs : List Nat} : wipeE ρ (v :: vs) = (wipeE ρ vs).set v .un := (rfl)
@[simp] theorem mApp_e {i : Nat} : mApp i ma ρ = match ρ[i]? with | some (.ow (.list ds)) => (ma ρ).bind fun d => if ds.length < sizeLine then .ok (.nx (ρ.set i (.ow (.list (ds ++ [d]))))) else .st | _ => .st := (rfl)
@[simp] theorem mNeg_e : mNeg ma ρ = (ma ρ).bind fun d => match d with | .int i => .ok (.int (-i)) | _ => .st := (rfl)
@[simp] theorem mIns_e {i : Nat} : mIns i ma mb ρ = match ρ[i]? with | some (.ow (.list ds)) => (ma ρ).bind fun d => (mb ρ).bind fun e => (match d with | .int k => if ds.length < sizeLine ∧ 0 ≤ k ∧ k ≤ ds.length then .ok (.nx (ρ.set i (.ow (.list (ds.take k.toNat ++ e :: ds.drop k.toNat))))) else .st | _ => .st) | _ => .st := (rfl)
@[simp] theorem mOpt_none : mOpt none ρ = .ok none := (rfl)
@[simp] theorem mOpt_some : mOpt (some ma) ρ = (ma ρ).bind fun d => match d with | .int i => .ok (some i) | _ => .st := (rfl)
@[simp] theorem mSl_e {lo hi : Option (Env → R PyData)} : mSl ma lo hi ρ = (ma ρ).bind fun d => (mOpt lo ρ).bind fun l => (mOpt hi ρ).bind fun h => gSl d l h := (rfl)

@[simp] theorem gAdd_i {i j : Int} : gAdd (.int i) (.int j) = .ok (.int (i + j)) := (rfl)
@[simp] theorem gAdd_s {i j : Str} : gAdd (.str i) (.str j) = if i.length + j.length ≤ sizeLine then .ok (.str (i ++ j)) else .st := (rfl)
@[simp] theorem gAdd_l {i j : List PyData} : gAdd (.list i) (.list j) = if i.length + j.length ≤ sizeLine then .ok (.list (i ++ j)) else .st := (rfl)
@[simp] theorem gAdd_t {i j : List PyData} : gAdd (.tuple i) (.tuple j) = if i.length + j.length ≤ sizeLine then .ok (.tuple (i ++ j)) else .st := (rfl)
@[simp] theorem gSub_i {i j : Int} : gSub (.int i) (.int j) = .ok (.int (i - j)) := (rfl)
theorem p64 : (2 : Int) ^ 64 = 18446744073709551616 := by decide
@[simp] theorem gMul_i {i j : Int} : gMul (.int i) (.int j) = if (-18446744073709551616 < i ∧ i < 18446744073709551616) ∨ (-18446744073709551616 < j ∧ j < 18446744073709551616) then .ok (.int (i * j)) else .st := by
  unfold gMul
  simp only [p64]
@[simp] theorem gRep_i {i j : Int} : gRep (.int i) (.int j) = if (-18446744073709551616 < i ∧ i < 18446744073709551616) ∨ (-18446744073709551616 < j ∧ j < 18446744073709551616) then .ok (.int (i * j)) else .st := by
  rw [gRep, gMul_i]
  intro _ _ e; cases e
@[simp] theorem gRep_t {xs : List PyData} {k : Int} : gRep (.tuple xs) (.int k) = if xs ≠ [] ∧ 2 ≤ k ∧ k ≤ 1000 ∧ xs.length ≤ 1000 then .ok (.tuple (List.replicate k.toNat xs).flatten) else .st := (rfl)
@[simp] theorem gMod_i {i j : Int} : gMod (.int i) (.int j) = if 0 < j then .ok (.int (i % j)) else .st := (rfl)
@[simp] theorem gDiv_i {i j : Int} : gDiv (.int i) (.int j) = if 0 < j ∧ j < 1073741824 then .ok (.int (i / j)) else .st := (rfl)
@[simp] theorem gLt_i {i j : Int} : gLt (.int i) (.int j) = .ok (decide (i < j)) := (rfl)
@[simp] theorem gGe_i {i j : Int} : gGe (.int i) (.int j) = .ok (decide (j ≤ i)) := (rfl)
@[simp] theorem gLe_i {i j : Int} : gLe (.int i) (.int j) = .ok (decide (i ≤ j)) := (rfl)
@[simp] theorem gGt_i {i j : Int} : gGt (.int i) (.int j) = .ok (decide (j < i)) := (rfl)
@[simp] theorem gLen_l {xs : List PyData} : gLen (.list xs) = .ok (.int xs.length) := (rfl)
@[simp] theorem gLen_t {xs : List PyData} : gLen (.tuple xs) = .ok (.int xs.length) := (rfl)
@[simp] theorem gLen_s {z : Str} : gLen (.str z) = if z.length ≤ sizeLine then .ok (.int z.length) else .st := (rfl)
@[simp] theorem gTuple_l {xs : List PyData} : gTuple (.list xs) = .ok (.tuple xs) := (rfl)
@[simp] theorem gTuple_t {xs : List PyData} : gTuple (.tuple xs) = .ok (.tuple xs) := (rfl)
@[simp] theorem gList_l {xs : List PyData} : gList (.list xs) = .ok (.list xs) := (rfl)
@[simp] theorem gList_t {xs : List PyData} : gList (.tuple xs) = .ok (.list xs) := (rfl)
@[simp] theorem gInt_i {i : Int} : gInt (.int i) = .ok (.int i) := (rfl)
@[simp] theorem gInt_b {b : Bool} : gInt (.bool b) = .ok (.int (if b = true then 1 else 0)) := (rfl)
@[simp] theorem gTru_b {b : Bool} : gTru (.bool b) = .ok b := (rfl)
@[simp] theorem gTru_i {i : Int} : gTru (.int i) = .ok (i != 0) := (rfl)
@[simp] theorem gTru_l {xs : List PyData} : gTru (.list xs) = .ok (!xs.isEmpty) := (rfl)
@[simp] theorem gTru_t {xs : List PyData} : gTru (.tuple xs) = .ok (!xs.isEmpty) := (rfl)
@[simp] theorem gIs_b {a b : Bool} : gIs (.bool a) (.bool b) = .ok (decide (a = b)) := (rfl)
@[simp] theorem gIs_n {d : PyData} : gIs d .none = .ok (isNon d) := (rfl)
@[simp] theorem gItems_l {xs : List PyData} : gItems (.list xs) = .ok xs := (rfl)
@[simp] theorem gItems_t {xs : List PyData} : gItems (.tuple xs) = .ok xs := (rfl)
@[simp] theorem gItems_s {z : Str} : gItems (.str z) = if z.length ≤ sizeLine then .ok (signsD z) else .st := (rfl)
@[simp] theorem gIxS_l {xs : List PyData} {i : Int} : gIxS (.list xs) (.int i) = match atI xs i with | some x => .ok x | none => .st := (rfl)
@[simp] theorem gIxS_t {xs : List PyData} {i : Int} : gIxS (.tuple xs) (.int i) = match atI xs i with | some x => .ok x | none => .st := (rfl)
@[simp] theorem gIxS_s {z : Str} {i : Int} : gIxS (.str z) (.int i) = if z.length ≤ sizeLine then match atI z.cps.toList i with | some c => .ok (.str ⟨#[c]⟩) | none => .st else .st := (rfl)
@[simp] theorem gSl_l {xs : List PyData} {lo hi : Option Int} : gSl (.list xs) lo hi = .ok (.list (cutD xs lo hi)) := (rfl)
@[simp] theorem gSl_t {xs : List PyData} {lo hi : Option Int} : gSl (.tuple xs) lo hi = .ok (.tuple (cutD xs lo hi)) := (rfl)
@[simp] theorem gNe_e {d e : PyData} : gNe d e = (gEq d e).bind fun b => .ok (!b) := (rfl)
@[simp] theorem gNin_e {d e : PyData} : gNin d e = (gIn d e).bind fun b => .ok (!b) := (rfl)

/-! ### an item at a place -/
theorem ixN_nn {n : Nat} {i : Int} (h0 : 0 ≤ i) (h1 : i < n) : ixN n i = some i.toNat := by
  unfold ixN
  rw [if_pos h0, if_pos h1]
theorem atI_nn {xs : List α} {i : Int} (h0 : 0 ≤ i) (h1 : i < xs.length) : atI xs i = some (xs[i.toNat]'(by omega)) := by
  unfold atI
  rw [ixN_nn h0 h1]
  exact List.getElem?_eq_getElem _
theorem atI_mem {xs : List α} {i : Int} (h0 : 0 ≤ i) (h1 : i < xs.length) : ∃ x ∈ xs, atI xs i = some x := ⟨_, List.getElem_mem _, atI_nn h0 h1⟩
theorem atI_map {f : α → β} {xs : List α} {i : Int} : atI (xs.map f) i = (atI xs i).map f := by
  unfold atI
  rw [List.length_map]
  cases ixN xs.length i with
  | none => rfl
  | some j => simp

/-! ### equality of typed data -/
section
variable {τ : Type} [DecidableEq τ] [Datum τ]
theorem gEq_D (a b : τ) (h : Datum.depth τ ≤ 60) : gEq (Datum.toD a) (Datum.toD b) = .ok (decide (a = b)) := by
  unfold gEq
  rw [if_pos (by
    rw [Datum.plain, Datum.plain]
    have := Datum.depth_le a
    simp only [Bool.and_self, Bool.true_and, decide_eq_true_eq]
    omega), Datum.eqv]
theorem gIn_L (a : τ) (xs : List τ) (h : Datum.depth τ ≤ 60) : gIn (Datum.toD a) (.list (xs.map Datum.toD)) = .ok (decide (a ∈ xs)) := by
  show (if (PyData.plain (Datum.toD a) && PyData.plainAll (xs.map Datum.toD) && decide ((Datum.toD a).depth ≤ 60)) = true then R.ok ((xs.map Datum.toD).any fun y => PyData.eqv y (Datum.toD a)) else R.st) = _
  rw [if_pos (by
    rw [Datum.plain, plainAll_map]
    have := Datum.depth_le a
    simp only [Bool.and_self, Bool.true_and, decide_eq_true_eq]
    omega)]
  congr 1
  rw [Bool.eq_iff_iff, List.any_eq_true, decide_eq_true_eq]
  constructor
  · rintro ⟨d, hd, e⟩
    obtain ⟨b, hb, rfl⟩ := List.mem_map.mp hd
    rw [Datum.eqv, decide_eq_true_eq] at e
    exact e ▸ hb
  · exact fun h => ⟨_, List.mem_map.mpr ⟨a, h, rfl⟩, by rw [Datum.eqv]; exact decide_eq_true rfl⟩
theorem gIn_T (a : τ) (xs : List τ) (h : Datum.depth τ ≤ 60) : gIn (Datum.toD a) (.tuple (xs.map Datum.toD)) = .ok (decide (a ∈ xs)) := gIn_L a xs h
end
@[simp] theorem gEq_i {a b : Int} : gEq (.int a) (.int b) = .ok (decide (a = b)) := gEq_D a b (Nat.zero_le _)
@[simp] theorem gEq_s {a b : Str} : gEq (.str a) (.str b) = .ok (decide (a = b)) := gEq_D a b (Nat.zero_le _)
@[simp] theorem gEq_b {a b : Bool} : gEq (.bool a) (.bool b) = .ok (decide (a = b)) := gEq_D a b (Nat.zero_le _)
@[simp] theorem gEq_li {a b : Int} : gEq (.int a) (.int b) = .ok (decide (a = b)) := gEq_D a b (Nat.zero_le _)
theorem gIn_Ls (a : Str) (xs : List Str) : gIn (.str a) (.list (xs.map .str)) = .ok (decide (a ∈ xs)) := gIn_L a xs (Nat.zero_le _)
theorem gIn_Ts (a : Str) (xs : List Str) : gIn (.str a) (.tuple (xs.map .str)) = .ok (decide (a ∈ xs)) := gIn_L a xs (Nat.zero_le _)
@[simp] theorem gIn_c {c : Nat} {z : Str} : gIn (.str ⟨#[c]⟩) (.str z) = .ok (decide (c ∈ z.cps.toList)) := (rfl)

/-! ### loops -/
theorem okR_forD {mt : PyData → Env → R Env} {mB : Env → R Fl} {K : Fl → Prop} (Inv : List PyData → Env → Prop) :
    ∀ {ds : List PyData} {ρ : Env}, Inv ds ρ → (∀ d rest ρ, Inv (d :: rest) ρ → OkR ((mt d ρ).bind mB) (fun fl => match fl with
      | .nx ρ' => Inv rest ρ'
      | .ct ρ' => Inv rest ρ'
      | .bk ρ' => K (.nx ρ')
      | .rt d ρ' => K (.rt d ρ')) w) → (∀ ρ, Inv [] ρ → K (.nx ρ)) → OkR (forD mt mB ds ρ) K w
  | [], ρ, h0, _, hE => hE ρ h0
  | d :: ds, ρ, h0, hS, hE => by
    have := hS d ds ρ h0
    unfold forD
    rw [okR_bind] at this ⊢
    refine okR_mono this fun ρ1 _ q => ?_
    rw [okR_bind]
    refine okR_mono q fun fl _ q => ?_
    cases fl with
    | nx ρ2 => exact okR_forD Inv q hS hE
    | ct ρ2 => exact okR_forD Inv q hS hE
    | bk ρ2 => exact q
    | rt d ρ2 => exact q
/-- the same, typed: what is still to be walked, of an encoded list -/
theorem okR_forE {mt : PyData → Env → R Env} {mB : Env → R Fl} {K : Fl → Prop} {enc : α → PyData} (Inv : List α → Env → Prop) {xs : List α} {ρ : Env} (h0 : Inv xs ρ)
    (hS : ∀ x rest ρ, x ∈ xs → Inv (x :: rest) ρ → OkR ((mt (enc x) ρ).bind mB) (fun fl => match fl with
      | .nx ρ' => Inv rest ρ'
      | .ct ρ' => Inv rest ρ'
      | .bk ρ' => K (.nx ρ')
      | .rt d ρ' => K (.rt d ρ')) w) (hE : ∀ ρ, Inv [] ρ → K (.nx ρ)) : OkR (forD mt mB (xs.map enc) ρ) K w := by
  refine okR_forD (fun ds ρ => ∃ ys, ds = ys.map enc ∧ (∀ y ∈ ys, y ∈ xs) ∧ Inv ys ρ) ⟨xs, rfl, fun _ h => h, h0⟩ ?_ ?_
  · rintro d rest ρ ⟨ys, e, hy, hI⟩
    cases ys with
    | nil => cases e
    | cons y ys =>
      injection e with e1 e2
      subst e1 e2
      refine okR_mono (hS y ys ρ (hy y List.mem_cons_self) hI) fun fl _ q => ?_
      have hy' : ∀ z ∈ ys, z ∈ xs := fun z hz => hy z (List.mem_cons_of_mem _ hz)
      cases fl with
      | nx ρ2 => exact ⟨ys, rfl, hy', q⟩
      | ct ρ2 => exact ⟨ys, rfl, hy', q⟩
      | bk ρ2 => exact q
      | rt d ρ2 => exact q
  · rintro ρ ⟨ys, e, _, hI⟩
    cases ys with
    | nil => exact hE ρ hI
    | cons y ys => cases e
/-- a comprehension without a condition -/
theorem compD_map {mt : PyData → Env → R Env} {me : Env → R PyData} {enc : α → PyData} {f : α → PyData} : ∀ {xs : List α}, (∀ x ∈ xs, (mt (enc x) ρ).bind me = .ok (f x)) → compD mt mYes me ρ (xs.map enc) = .ok (xs.map f)
  | [], _ => rfl
  | x :: xs, h => by
    have hx := h x List.mem_cons_self
    have ih := compD_map (xs := xs) fun y hy => h y (List.mem_cons_of_mem _ hy)
    unfold compD at ih ⊢
    rw [List.map_cons]
    simp only [mYes_e, bind_okE, if_true]
    cases hm : mt (enc x) ρ with
    | ok ρ1 =>
      rw [hm, bind_okE] at hx
      rw [bind_okE, hx, bind_okE]
      show (compD mt mYes me ρ (xs.map enc)).bind _ = _
      unfold compD
      rw [ih]; rfl
    | ex x => rw [hm] at hx; cases hx
    | st => rw [hm] at hx; cases hx
theorem compD_filter {mt : PyData → Env → R Env} {me : Env → R PyData} {mc : Env → R Bool} {enc : α → PyData} {f : α → PyData} {p : α → Bool} : ∀ {xs : List α}, (∀ x ∈ xs, ∃ ρ', mt (enc x) ρ = .ok ρ' ∧ mc ρ' = .ok (p x) ∧ (p x = true → me ρ' = .ok (f x))) → compD mt mc me ρ (xs.map enc) = .ok ((xs.filter p).map f)
  | [], _ => rfl
  | x :: xs, h => by
    obtain ⟨ρ', h1, h2, h3⟩ := h x List.mem_cons_self
    have ih := compD_filter (xs := xs) fun y hy => h y (List.mem_cons_of_mem _ hy)
    rw [List.map_cons]
    unfold compD
    rw [h1, bind_okE, h2, bind_okE, ih]
    cases hp : p x with
    | true => rw [if_pos rfl, h3 hp, bind_okE, bind_okE, List.filter_cons_of_pos hp]; rfl
    | false => rw [if_neg (by decide), List.filter_cons_of_neg (by rw [hp]; decide)]
/-- a comprehension whose items are told by a property -/
theorem compD_ex {mt : PyData → Env → R Env} {me : Env → R PyData} {enc : α → PyData} {enc' : β → PyData} {P : α → β → Prop} : ∀ {xs : List α}, (∀ x ∈ xs, ∃ y, (mt (enc x) ρ).bind me = .ok (enc' y) ∧ P x y) →
    ∃ ys : List β, compD mt mYes me ρ (xs.map enc) = .ok (ys.map enc') ∧ ys.length = xs.length ∧ ∀ y ∈ ys, ∃ x ∈ xs, P x y
  | [], _ => ⟨[], rfl, rfl, fun _ h => nomatch h⟩
  | x :: xs, h => by
    obtain ⟨y, hy, hP⟩ := h x List.mem_cons_self
    obtain ⟨ys, h1, h2, h3⟩ := compD_ex (xs := xs) fun y hy => h y (List.mem_cons_of_mem _ hy)
    refine ⟨y :: ys, ?_, by rw [List.length_cons, List.length_cons, h2], fun z hz => ?_⟩
    · rw [List.map_cons, List.map_cons]
      unfold compD
      cases hm : mt (enc x) ρ with
      | ok ρ1 =>
        rw [hm, bind_okE] at hy
        rw [bind_okE, mYes_e, bind_okE, if_pos rfl, hy, bind_okE, h1]; rfl
      | ex x => rw [hm] at hy; cases hy
      | st => rw [hm] at hy; cases hy
    · rcases List.mem_cons.mp hz with rfl | hz
      · exact ⟨x, List.mem_cons_self, hP⟩
      · obtain ⟨x', hx', hp⟩ := h3 z hz
        exact ⟨x', List.mem_cons_of_mem _ hx', hp⟩

theorem okR_comp {mt : PyData → Env → R Env} {me : Env → R PyData} {enc : α → PyData} {xs : List α} (f : α → PyData) {K : List PyData → R β} {k : β → Prop} (h : ∀ x ∈ xs, OkR ((mt (enc x) ρ).bind me) (fun y => y = f x) (fun _ => False)) (hk : OkR (K (xs.map f)) k w) :
    OkR ((compD mt mYes me ρ (xs.map enc)).bind K) k w := by
  rw [compD_map (f := f) fun x hx => eq_ok.mpr (h x hx)]
  exact hk
theorem okR_compE {mt : PyData → Env → R Env} {me : Env → R PyData} {enc : α → PyData} {xs : List α} {γ : Type} (enc' : γ → PyData) (P : α → γ → Prop) {K : List PyData → R β} {k : β → Prop} (h : ∀ x ∈ xs, OkR ((mt (enc x) ρ).bind me) (fun y => ∃ z, y = enc' z ∧ P x z) (fun _ => False))
    (hk : ∀ ys : List γ, ys.length = xs.length → (∀ y ∈ ys, ∃ x ∈ xs, P x y) → OkR (K (ys.map enc')) k w) : OkR ((compD mt mYes me ρ (xs.map enc)).bind K) k w := by
  obtain ⟨ys, h1, h2, h3⟩ := compD_ex (enc' := enc') (P := P) fun x hx => by
    obtain ⟨a, ha, y, e, p⟩ := okR_ex (h x hx)
    exact ⟨y, by rw [ha, e], p⟩
  rw [h1]
  exact hk ys h2 h3
theorem okR_compF {mt : PyData → Env → R Env} {mc : Env → R Bool} {me : Env → R PyData} {enc : α → PyData} {xs : List α} (p : α → Bool) (f : α → PyData) {K : List PyData → R β} {k : β → Prop} (h : ∀ x ∈ xs, OkR (mt (enc x) ρ) (fun ρ' => OkR (mc ρ') (fun b => b = p x ∧ (b = true → OkR (me ρ') (fun y => y = f x) (fun _ => False))) (fun _ => False)) (fun _ => False)) (hk : OkR (K ((xs.filter p).map f)) k w) :
    OkR ((compD mt mc me ρ (xs.map enc)).bind K) k w := by
  rw [compD_filter (f := f) (p := p) fun x hx => by
    obtain ⟨ρ', h1, h⟩ := okR_ex (h x hx)
    obtain ⟨b, h2, e, h⟩ := okR_ex h
    subst e
    exact ⟨ρ', h1, h2, fun hp => eq_ok.mpr (h hp)⟩]
  exact hk
theorem okR_forK {mt : PyData → Env → R Env} {mB : Env → R Fl} {enc : α → PyData} {K : Fl → R β} {k : β → Prop} (Inv : List α → Env → Prop) {xs : List α} {ρ : Env} (h0 : Inv xs ρ)
    (hS : ∀ x rest ρ, x ∈ xs → Inv (x :: rest) ρ → OkR ((mt (enc x) ρ).bind mB) (fun fl => match fl with
      | .nx ρ' => Inv rest ρ'
      | .ct ρ' => Inv rest ρ'
      | .bk ρ' => OkR (K (.nx ρ')) k w
      | .rt d ρ' => OkR (K (.rt d ρ')) k w) w) (hE : ∀ ρ, Inv [] ρ → OkR (K (.nx ρ)) k w) : OkR ((forD mt mB (xs.map enc) ρ).bind K) k w := by
  rw [okR_bind]
  exact okR_forE Inv h0 hS hE
def irange (lo : Int) (n : Nat) : List Int := (List.range n).map fun i : Nat => lo + (i : Int)
@[simp] theorem rgD_e {lo : Int} {n : Nat} : rgD lo n = (irange lo n).map PyData.int := by
  rw [irange, List.map_map]; rfl
theorem mem_irange {lo x : Int} {n : Nat} : x ∈ irange lo n ↔ lo ≤ x ∧ x < lo + n := by
  unfold irange
  rw [List.mem_map]
  constructor
  · rintro ⟨i, hi, rfl⟩
    have := List.mem_range.mp hi
    omega
  · rintro ⟨h1, h2⟩
    exact ⟨(x - lo).toNat, List.mem_range.mpr (by omega), by omega⟩
@[simp] theorem len_irange {lo : Int} {n : Nat} : (irange lo n).length = n := by simp [irange]

theorem okR_seq {K : Fl → Prop} (Mid : Env → Prop) (h1 : OkR (m ρ) (fun fl => ∃ ρ', fl = .nx ρ' ∧ Mid ρ') w) (h2 : ∀ ρ', Mid ρ' → OkR (n ρ') K w) : OkR (mSeq m n ρ) K w := by
  unfold mSeq
  rw [okR_bind]
  refine okR_mono h1 fun fl _ ⟨ρ', e, h⟩ => ?_
  subst e
  exact h2 ρ' h
theorem okR_end {r : R Fl} {k : PyData → Prop} : OkR (endD r) k w ↔ OkR r (fun fl => match fl with | .rt d _ => k d | .nx _ => k .none | _ => False) w := by
  unfold endD
  rw [okR_bind]
  cases r with
  | ok fl => cases fl <;> exact Iff.rfl
  | ex x => exact Iff.rfl
  | st => exact Iff.rfl
theorem okR_endO {r : R Fl} {k : PyData → Prop} : OkR (endO r) k w ↔ OkR r (fun fl => match fl with | .rt d _ => k d | _ => False) w := by
  unfold endO
  rw [okR_bind]
  cases r with
  | ok fl => cases fl <;> exact Iff.rfl
  | ex x => exact Iff.rfl
  | st => exact Iff.rfl

/-- a loop that goes on as long as p holds, and else hands back v -/
theorem okR_forall {mt : PyData → Env → R Env} {mB : Env → R Fl} {enc : α → PyData} {K : Fl → R β} {k : β → Prop} (Inv : Env → Prop) (p : α → Prop) (v : PyData) {xs : List α} {ρ : Env} (h0 : Inv ρ)
    (hS : ∀ x ρ, x ∈ xs → Inv ρ → OkR ((mt (enc x) ρ).bind mB) (fun fl => match fl with
      | .nx ρ' => p x ∧ Inv ρ'
      | .ct ρ' => p x ∧ Inv ρ'
      | .bk _ => False
      | .rt d _ => ¬p x ∧ d = v) w) (hT : (∀ x ∈ xs, p x) → ∀ ρ, Inv ρ → OkR (K (.nx ρ)) k w) (hF : (¬∀ x ∈ xs, p x) → ∀ ρ, OkR (K (.rt v ρ)) k w) : OkR ((forD mt mB (xs.map enc) ρ).bind K) k w := by
  refine okR_forK (fun rest ρ => Inv ρ ∧ ((∀ x ∈ xs, p x) ↔ ∀ x ∈ rest, p x)) ⟨h0, Iff.rfl⟩ ?_ ?_
  · rintro x rest ρ hx ⟨hI, hp⟩
    refine okR_mono (hS x ρ hx hI) fun fl _ q => ?_
    cases fl with
    | nx ρ' => exact ⟨q.2, hp.trans ⟨fun h y hy => h y (List.mem_cons_of_mem _ hy), fun h y hy => (List.mem_cons.mp hy).elim (fun e => e ▸ q.1) (h y)⟩⟩
    | ct ρ' => exact ⟨q.2, hp.trans ⟨fun h y hy => h y (List.mem_cons_of_mem _ hy), fun h y hy => (List.mem_cons.mp hy).elim (fun e => e ▸ q.1) (h y)⟩⟩
    | bk ρ' => exact q.elim
    | rt d ρ' =>
      obtain ⟨q, rfl⟩ := q
      exact hF (fun h => q (h x hx)) ρ'
  · rintro ρ ⟨hI, hp⟩
    exact hT (hp.mpr fun _ h => nomatch h) ρ hI

/-! ### data of any shape, but not too big -/
def tame : Nat → PyData → Prop
  | _, .none => True
  | _, .bool _ => True
  | _, .int _ => True
  | _, .str x => x.length ≤ 1000
  | n + 1, .list xs => xs.length ≤ 1000 ∧ ∀ x ∈ xs, tame n x
  | n + 1, .tuple xs => xs.length ≤ 1000 ∧ ∀ x ∈ xs, tame n x
  | _, _ => False
theorem plainAll_of : ∀ {xs : List PyData}, (∀ x ∈ xs, PyData.plain x = true) → PyData.plainAll xs = true
  | [], _ => rfl
  | x :: xs, h => by
    rw [PyData.plainAll, h x List.mem_cons_self, plainAll_of fun y hy => h y (List.mem_cons_of_mem _ hy)]; rfl
theorem depthAll_of {n : Nat} : ∀ {xs : List PyData}, (∀ x ∈ xs, PyData.depth x ≤ n) → PyData.depthAll xs ≤ n
  | [], _ => Nat.zero_le _
  | x :: xs, h => by
    rw [PyData.depthAll]
    exact Nat.max_le.mpr ⟨h x List.mem_cons_self, depthAll_of fun y hy => h y (List.mem_cons_of_mem _ hy)⟩
theorem tame_ok : ∀ {n : Nat} {d : PyData}, tame n d → PyData.plain d = true ∧ PyData.depth d ≤ n
  | _, .none, _ => ⟨rfl, Nat.zero_le _⟩
  | _, .bool _, _ => ⟨rfl, Nat.zero_le _⟩
  | _, .int _, _ => ⟨rfl, Nat.zero_le _⟩
  | _, .str _, _ => ⟨rfl, Nat.zero_le _⟩
  | 0, .list _, h => by simp [tame] at h
  | 0, .tuple _, h => by simp [tame] at h
  | 0, .dict _, h => by simp [tame] at h
  | _ + 1, .dict _, h => by simp [tame] at h
  | n + 1, .list xs, h => by
    simp only [tame] at h
    constructor
    · simp only [PyData.plain]; exact plainAll_of fun x hx => (tame_ok (h.2 x hx)).1
    · simp only [PyData.depth]; exact Nat.succ_le_succ (depthAll_of fun x hx => (tame_ok (h.2 x hx)).2)
  | n + 1, .tuple xs, h => by
    simp only [tame] at h
    constructor
    · simp only [PyData.plain]; exact plainAll_of fun x hx => (tame_ok (h.2 x hx)).1
    · simp only [PyData.depth]; exact Nat.succ_le_succ (depthAll_of fun x hx => (tame_ok (h.2 x hx)).2)
theorem tame_up : ∀ {n : Nat} {d : PyData}, tame n d → tame (n + 1) d
  | _, .none, _ => trivial
  | _, .bool _, _ => trivial
  | _, .int _, _ => trivial
  | _, .str _, h => by simpa [tame] using h
  | 0, .list _, h => by simp [tame] at h
  | 0, .tuple _, h => by simp [tame] at h
  | 0, .dict _, h => by simp [tame] at h
  | _ + 1, .dict _, h => by simp [tame] at h
  | n + 1, .list xs, h => by simp only [tame] at h ⊢; exact ⟨h.1, fun x hx => tame_up (h.2 x hx)⟩
  | n + 1, .tuple xs, h => by simp only [tame] at h ⊢; exact ⟨h.1, fun x hx => tame_up (h.2 x hx)⟩
theorem tame_le {n m : Nat} {d : PyData} (h : tame n d) (hm : n ≤ m) : tame m d := by
  induction m with
  | zero => cases Nat.le_zero.mp hm; exact h
  | succ m ih =>
    by_cases e : n = m + 1
    · subst e; exact h
    · exact tame_up (ih (by omega))
theorem gIsa_tame {n : Nat} {d : PyData} {p : PyData → Bool} (h : tame n d) : gIsa p d = .ok (.bool (p d)) := if_pos (tame_ok h).1
end
end Pv

namespace Lw
open PySem Pv
def c_KEPT : PyData := .tuple [.str "rule", .str "fact", .str "if", .str "and", .str "not"]
noncomputable def m_law_mix : Pv.Env → Pv.R Fl := mRet (m2 gMod (m2 gMod (m2 gRep (mVarB 0) (mC (.int 48271))) (mVarB 1)) (mVarB 2))
noncomputable def d_law_mix : List PyData → Pv.R PyData := runD 3 [false, false, false] m_law_mix
noncomputable def m_law_cell : Pv.Env → Pv.R Fl := mSeq (mIf (mT2 gLt (mVarB 1) (m1 gLen (mVarB 0)))
  (mRet (m2 gIxS (mVarB 0) (mVarB 1)))
  (mNext))
  (mRet (mC (.int 0)))
noncomputable def d_law_cell : List PyData → Pv.R PyData := runD 2 [false, false] m_law_cell
noncomputable def m_law_word : Pv.Env → Pv.R Fl := mSeq (mSet 3 .f (mC (.str "abcdefghijklmnopqrstuvwxyz")))
  (mSeq (mSet 4 .f (m1 (gJoin "") (mLc [6] (mRng1 (mCall d_law_mix [m2 gAdd (mVarB 0) (mVarB 1), mC (.int 9929), mC (.int 8)])) (mtName 6) (mYes) (m2 gIxS (mVarB 3) (mCall d_law_mix [m2 gAdd (m2 gAdd (mVarB 0) (m2 gRep (m2 gRep (mC (.int 7)) (mVarB 6)) (mVarB 6))) (mVarB 1), mC (.int 9931), mC (.int 26)])))))
  (mSeq (mSet 5 .f (m2 gAdd (m2 gIxS (mVarB 2) (mVarB 1)) (mVarB 4)))
  (mSeq (mIf (mT2 gIn (mVarB 5) (mLst [mC (.str "and"), mC (.str "fact"), mC (.str "if"), mC (.str "rule"), mC (.str "not")]))
  (mRet (m2 gAdd (m2 gIxS (mVarB 2) (mVarB 1)) (mC (.str "zz"))))
  (mNext))
  (mRet (mVar 5)))))
noncomputable def d_law_word : List PyData → Pv.R PyData := runD 7 [false, false, false] m_law_word
noncomputable def m_law_words : Pv.Env → Pv.R Fl := mSeq (mSet 1 .f (mC (.int 3)))
  (mSeq (mIf (mOr (mT2 gGt (m1 gLen (mVarB 0)) (mC (.int 63))) (mT2 gEq (mCall d_law_mix [mCall d_law_cell [mVarB 0, mC (.int 3)], mC (.int 9479), mC (.int 7)]) (mC (.int 3))))
  (mSet 1 .f (mC (.int 4)))
  (mNext))
  (mRet (mLc [2] (mRng1 (mVar 1)) (mtName 2) (mYes) (mCall d_law_word [mCall d_law_cell [mVarB 0, mC (.int 1)], mVarB 2, mC (.str "abcdef")]))))
noncomputable def d_law_words : List PyData → Pv.R PyData := runD 3 [false] m_law_words
noncomputable def m_law_kinds : Pv.Env → Pv.R Fl := mRet (mLc [1] (mRng1 (mC (.int 6))) (mtName 1) (mYes) (mCall d_law_word [mCall d_law_cell [mVarB 0, mC (.int 0)], mVarB 1, mC (.str "pqrstu")]))
noncomputable def d_law_kinds : List PyData → Pv.R PyData := runD 2 [false] m_law_kinds
noncomputable def m_law_size : Pv.Env → Pv.R Fl := mRet (m2 gAdd (m2 gIxS (mLst [mC (.int 2), mC (.int 1), mC (.int 2), mC (.int 1), mC (.int 0), mC (.int 2)]) (mVarB 1)) (m1 gInt (m2 (boolD gEq) (mCall d_law_mix [m2 gAdd (mCall d_law_cell [mVarB 0, mC (.int 1)]) (mVarB 1), mC (.int 9923), mC (.int 7)]) (mC (.int 0)))))
noncomputable def d_law_size : List PyData → Pv.R PyData := runD 2 [false, false] m_law_size
noncomputable def m_law_some : Pv.Env → Pv.R Fl := mRet (m2 gIxS (mVarB 1) (mCall d_law_mix [mVarB 0, mC (.int 9907), m1 gLen (mVarB 1)]))
noncomputable def d_law_some : List PyData → Pv.R PyData := runD 2 [false, false] m_law_some
noncomputable def m_law_body : Pv.Env → Pv.R Fl := mSeq (mSet 4 .f (mCall d_law_words [mVarB 0]))
  (mSeq (mSet 5 .f (mCall d_law_kinds [mVarB 0]))
  (mSeq (mSet 6 .o (mLst []))
  (mSeq (mFor (mRng1 (mCall d_law_mix [mVarB 1, mC (.int 9901), mC (.int 4)])) (mtName 7)
  (mSeq (mSet 8 .f (mCall d_law_mix [m2 gAdd (mVarB 1) (m2 gRep (mC (.int 31)) (mVarB 7)), mC (.int 9887), m2 gAdd (mVarB 2) (mC (.int 1))]))
  (mSeq (mIf (mTru (mVarB 3))
  (mSet 8 .f (mCall d_law_mix [m2 gAdd (mVarB 1) (m2 gRep (mC (.int 31)) (mVarB 7)), mC (.int 9887), mC (.int 6)]))
  (mNext))
  (mSeq (mIf (mAnd (mT2 gEq (mVarB 7) (mC (.int 0))) (mAnd (mT2 gEq (mVarB 8) (mVarB 2)) (mT2 gEq (mCall d_law_mix [mVarB 1, mC (.int 9883), mC (.int 2)]) (mC (.int 0)))))
  (mSet 8 .f (mC (.int 0)))
  (mNext))
  (mSeq (mSet 9 .o (mLst []))
  (mSeq (mFor (mRng1 (mCall d_law_size [mVarB 0, mVarB 8])) (mtName 10)
  (mApp 9 (mCall d_law_some [m2 gAdd (m2 gAdd (mVarB 1) (m2 gRep (mC (.int 13)) (mVarB 7))) (m2 gRep (mC (.int 5)) (mVarB 10)), mLst [mC (.str "X"), mC (.str "Y"), mC (.str "Z"), mC (.str "X"), mC (.str "Y"), m2 gIxS (mVarB 4) (mC (.int 0)), m2 gIxS (mVarB 4) (mC (.int 1))]])))
  (mApp 6 (mTup [mC (.str "yes"), mTup [m2 gIxS (mVarB 5) (mVarB 8), m1 gTuple (mVarB 9)]]))))))))
  (mRetO 6))))
noncomputable def d_law_body : List PyData → Pv.R PyData := runO 11 [false, false, false, false] m_law_body
noncomputable def m_law_bound : Pv.Env → Pv.R Fl := mSeq (mSet 1 .o (mLst []))
  (mSeq (mFor (mItems (mVarS 0)) (mtName 2)
  (mFor (mItems (m2 gIxS (m2 gIxS (mVarB 2) (mC (.int 1))) (mC (.int 1)))) (mtName 3)
  (mIf (mAnd (mT2 gIn (mVarB 3) (mLst [mC (.str "X"), mC (.str "Y"), mC (.str "Z")])) (mT2 gNin (mVarB 3) (mVarB 1)))
  (mApp 1 (mVar 3))
  (mNext))))
  (mFrz 1 (mRet (mVar 1))))
noncomputable def d_law_bound : List PyData → Pv.R PyData := runD 4 [false] m_law_bound
noncomputable def m_law_rule : Pv.Env → Pv.R Fl := mSeq (mSet 3 .f (mCall d_law_mix [mVarB 1, mC (.int 9871), mC (.int 6)]))
  (mSeq (mSet 4 .o (mCall d_law_body [mVarB 0, mVarB 1, mVarB 3, mVarB 2]))
  (mSeq (mSet 5 .f (m2 gAdd (mCall d_law_bound [mVarB 4]) (mLst [m2 gIxS (mCall d_law_words [mVarB 0]) (mC (.int 0)), m2 gIxS (mCall d_law_words [mVarB 0]) (mNeg (mC (.int 1)))])))
  (mSeq (mIf (mAnd (mNot (mTru (mVarB 2))) (mAnd (mT2 gGt (mVarB 3) (mC (.int 0))) (mAnd (mT2 gLt (m1 gLen (mVarB 4)) (mC (.int 4))) (mT2 gEq (mCall d_law_mix [mVarB 1, mC (.int 9859), mC (.int 3)]) (mC (.int 0))))))
  (mSeq (mSet 7 .f (mCall d_law_mix [mVarB 1, mC (.int 9857), mVarB 3]))
  (mSeq (mSet 6 .f (mLc [8] (mRng1 (mCall d_law_size [mVarB 0, mVarB 7])) (mtName 8) (mYes) (mCall d_law_some [m2 gAdd (m2 gAdd (mVarB 1) (mC (.int 3))) (mVarB 8), mVarB 5])))
  (mIns 4 (mCall d_law_mix [mVarB 1, mC (.int 9851), m2 gAdd (m1 gLen (mVarB 4)) (mC (.int 1))]) (mTup [mC (.str "no"), mTup [m2 gIxS (mCall d_law_kinds [mVarB 0]) (mVarB 7), m1 gTuple (mVarB 6)]]))))
  (mNext))
  (mSeq (mSet 6 .f (mLc [8] (mRng1 (mCall d_law_size [mVarB 0, mVarB 3])) (mtName 8) (mYes) (mCall d_law_some [m2 gAdd (mVarB 1) (m2 gRep (mC (.int 17)) (mVarB 8)), mVarB 5])))
  (mRet (mTup [mTup [m2 gIxS (mCall d_law_kinds [mVarB 0]) (mVarB 3), m1 gTuple (mVarB 6)], m1 gTuple (mVarB 4)]))))))
noncomputable def d_law_rule : List PyData → Pv.R PyData := runD 9 [false, false, false] m_law_rule
noncomputable def m_law_rules : Pv.Env → Pv.R Fl := mSeq (mSet 1 .f (mC (.int 5)))
  (mSeq (mIf (mOr (mT2 gGt (m1 gLen (mVarB 0)) (mC (.int 63))) (mT2 gEq (mCall d_law_mix [mCall d_law_cell [mVarB 0, mC (.int 3)], mC (.int 9479), mC (.int 7)]) (mC (.int 3))))
  (mSet 1 .f (mC (.int 9)))
  (mNext))
  (mSeq (mSet 2 .f (m2 (boolD gEq) (m2 gMod (mCall d_law_cell [mVarB 0, mC (.int 2)]) (mC (.int 3))) (mC (.int 0))))
  (mRet (m1 gTuple (mLc [3] (mItems (mSl (mVarB 0) (some (mC (.int 4))) (some (m2 gAdd (mC (.int 4)) (mVarB 1))))) (mtName 3) (mYes) (mCall d_law_rule [mVarB 0, mVarB 3, mVarB 2]))))))
noncomputable def d_law_rules : List PyData → Pv.R PyData := runD 4 [false] m_law_rules
noncomputable def m_atoms_of : Pv.Env → Pv.R Fl := mRet (m2 gAdd (mLst [m2 gIxS (mVarB 0) (mC (.int 0))]) (mLc [1] (mItems (m2 gIxS (mVarB 0) (mC (.int 1)))) (mtName 1) (mYes) (m2 gIxS (mVarB 1) (mC (.int 1)))))
noncomputable def d_atoms_of : List PyData → Pv.R PyData := runD 2 [false] m_atoms_of
noncomputable def m_is_variable : Pv.Env → Pv.R Fl := mSeq (mIf (mOr (mNot (mTru (m1 (gIsa PyData.isStr) (mVarB 0)))) (mOr (mNot (mChn gLe gLe (mC (.int 1)) (m1 gLen (mVarB 0)) (mC (.int 2)))) (mT2 gNin (m2 gIxS (mVarB 0) (mC (.int 0))) (mC (.str "ABCDEFGHIJKLMNOPQRSTUVWXYZ")))))
  (mRet (mC (.bool false)))
  (mNext))
  (mRet (mOrV (m2 (boolD gEq) (m1 gLen (mVarB 0)) (mC (.int 1))) (m2 (boolD gIn) (m2 gIxS (mVarB 0) (mC (.int 1))) (mC (.str "0123456789")))))
noncomputable def d_is_variable : List PyData → Pv.R PyData := runD 1 [false] m_is_variable
noncomputable def m_variables_of : Pv.Env → Pv.R Fl := mSeq (mSet 1 .o (mLst []))
  (mSeq (mFor (mItems (mCall d_atoms_of [mVarB 0])) (mtName 2)
  (mFor (mItems (m2 gIxS (mVarB 2) (mC (.int 1)))) (mtName 3)
  (mIf (mAnd (mTru (mCall d_is_variable [mVarB 3])) (mT2 gNin (mVarB 3) (mVarB 1)))
  (mApp 1 (mVar 3))
  (mNext))))
  (mFrz 1 (mRet (mVar 1))))
noncomputable def d_variables_of : List PyData → Pv.R PyData := runD 4 [false] m_variables_of
noncomputable def m_with_terms : Pv.Env → Pv.R Fl := mRet (mTup [m2 gIxS (mVarB 0) (mC (.int 0)), m1 gTuple (mLc [2] (mItems (m2 gIxS (mVarB 0) (mC (.int 1)))) (mtName 2) (mYes) (mGet2 (mVarB 1) (mVarB 2) (mVar 2)))])
noncomputable def d_with_terms : List PyData → Pv.R PyData := runD 3 [false, false] m_with_terms
noncomputable def m_rule_with : Pv.Env → Pv.R Fl := mRet (mTup [mCall d_with_terms [m2 gIxS (mVarB 0) (mC (.int 0)), mVarB 1], m1 gTuple (mLc [2, 3] (mItems (m2 gIxS (mVarB 0) (mC (.int 1)))) (mtTup 2 (mtCons (mtName 2) (mtCons (mtName 3) (mtNil)))) (mYes) (mTup [mVar 2, mCall d_with_terms [mVarB 3, mVarB 1]]))])
noncomputable def d_rule_with : List PyData → Pv.R PyData := runD 4 [false, false] m_rule_with
noncomputable def m_plain_names : Pv.Env → Pv.R Fl := mSeq (mSet 1 .o (mLc [3] (mItems (mC (.str "ABCDEFGHIJKLMNOPQRSTUVWXYZ"))) (mtName 3) (mYes) (mVar 3)))
  (mSeq (mFor (mItems (mC (.str "123456789"))) (mtName 2)
  (mExt 1 (mLc [3] (mItems (mC (.str "ABCDEFGHIJKLMNOPQRSTUVWXYZ"))) (mtName 3) (mYes) (m2 gAdd (mVarB 3) (mVarB 2)))))
  (mRet (mSl (mVarB 1) none (some (mVar 0)))))
noncomputable def d_plain_names : List PyData → Pv.R PyData := runD 4 [true] m_plain_names
noncomputable def m_plain : Pv.Env → Pv.R Fl := mSeq (mSet 1 .f (mCall d_variables_of [mVarB 0]))
  (mRet (mCall d_rule_with [mVarB 0, mDictZip (mVarB 1) (mCall d_plain_names [m1 gLen (mVarB 1)])]))
noncomputable def d_plain : List PyData → Pv.R PyData := runD 2 [false] m_plain
noncomputable def m_law_kinds_of : Pv.Env → Pv.R Fl := mRet (m2 gAdd (mLst [mTup [m2 gIxS (m2 gIxS (mVarB 0) (mC (.int 0))) (mC (.int 0)), m1 gLen (m2 gIxS (m2 gIxS (mVarB 0) (mC (.int 0))) (mC (.int 1)))]]) (mLc [1] (mItems (m2 gIxS (mVarB 0) (mC (.int 1)))) (mtName 1) (mYes) (mTup [m2 gIxS (mVarB 1) (mC (.int 0)), m2 gIxS (m2 gIxS (mVarB 1) (mC (.int 1))) (mC (.int 0)), m1 gLen (m2 gIxS (m2 gIxS (mVarB 1) (mC (.int 1))) (mC (.int 1)))])))
noncomputable def d_law_kinds_of : List PyData → Pv.R PyData := runD 2 [false] m_law_kinds_of
noncomputable def m_is_word : Pv.Env → Pv.R Fl := mSeq (mIf (mOr (mNot (mTru (m1 (gIsa PyData.isStr) (mVarB 0)))) (mOr (mNot (mChn gLe gLe (mC (.int 1)) (m1 gLen (mVarB 0)) (mC (.int 8)))) (mT2 gIn (mVarB 0) (mC c_KEPT))))
  (mRet (mC (.bool false)))
  (mNext))
  (mSeq (mFor (mItems (mVarS 0)) (mtName 1)
  (mIf (mT2 gNin (mVarB 1) (mC (.str "abcdefghijklmnopqrstuvwxyz")))
  (mRet (mC (.bool false)))
  (mNext)))
  (mRet (mC (.bool true))))
noncomputable def d_is_word : List PyData → Pv.R PyData := runD 2 [false] m_is_word
noncomputable def m_is_atom : Pv.Env → Pv.R Fl := mSeq (mIf (mOr (mNot (mTru (m1 (gIsa PyData.isTuple) (mVarB 0)))) (mOr (mT2 gNe (m1 gLen (mVarB 0)) (mC (.int 2))) (mNot (mTru (mCall d_is_word [m2 gIxS (mVarB 0) (mC (.int 0))])))))
  (mRet (mC (.bool false)))
  (mNext))
  (mSeq (mIf (mOr (mNot (mTru (m1 (gIsa PyData.isTuple) (m2 gIxS (mVarB 0) (mC (.int 1)))))) (mT2 gGt (m1 gLen (m2 gIxS (mVarB 0) (mC (.int 1)))) (mC (.int 3))))
  (mRet (mC (.bool false)))
  (mNext))
  (mSeq (mFor (mItems (m2 gIxS (mVarB 0) (mC (.int 1)))) (mtName 1)
  (mIf (mAnd (mNot (mTru (mCall d_is_word [mVarB 1]))) (mNot (mTru (mCall d_is_variable [mVarB 1]))))
  (mRet (mC (.bool false)))
  (mNext)))
  (mRet (mC (.bool true)))))
noncomputable def d_is_atom : List PyData → Pv.R PyData := runD 2 [false] m_is_atom
noncomputable def m_is_literal : Pv.Env → Pv.R Fl := mSeq (mIf (mOr (mNot (mTru (m1 (gIsa PyData.isTuple) (mVarB 0)))) (mOr (mT2 gNe (m1 gLen (mVarB 0)) (mC (.int 2))) (mNot (mTru (m1 (gIsa PyData.isStr) (m2 gIxS (mVarB 0) (mC (.int 0))))))))
  (mRet (mC (.bool false)))
  (mNext))
  (mRet (mAndV (mOrV (m2 (boolD gEq) (m2 gIxS (mVarB 0) (mC (.int 0))) (mC (.str "yes"))) (m2 (boolD gEq) (m2 gIxS (mVarB 0) (mC (.int 0))) (mC (.str "no")))) (mCall d_is_atom [m2 gIxS (mVarB 0) (mC (.int 1))])))
noncomputable def d_is_literal : List PyData → Pv.R PyData := runD 1 [false] m_is_literal
noncomputable def m_is_rule : Pv.Env → Pv.R Fl := mSeq (mIf (mOr (mNot (mTru (m1 (gIsa PyData.isTuple) (mVarB 0)))) (mOr (mT2 gNe (m1 gLen (mVarB 0)) (mC (.int 2))) (mNot (mTru (mCall d_is_atom [m2 gIxS (mVarB 0) (mC (.int 0))])))))
  (mRet (mC (.bool false)))
  (mNext))
  (mSeq (mIf (mOr (mNot (mTru (m1 (gIsa PyData.isTuple) (m2 gIxS (mVarB 0) (mC (.int 1)))))) (mT2 gGt (m1 gLen (m2 gIxS (mVarB 0) (mC (.int 1)))) (mC (.int 4))))
  (mRet (mC (.bool false)))
  (mNext))
  (mSeq (mSet 1 .f (mLst []))
  (mSeq (mFor (mItems (m2 gIxS (mVarB 0) (mC (.int 1)))) (mtName 2)
  (mSeq (mIf (mNot (mTru (mCall d_is_literal [mVarB 2])))
  (mRet (mC (.bool false)))
  (mNext))
  (mIf (mT2 gEq (m2 gIxS (mVarB 2) (mC (.int 0))) (mC (.str "yes")))
  (mSet 1 .f (m2 gAdd (mVarB 1) (m1 gList (m2 gIxS (m2 gIxS (mVarB 2) (mC (.int 1))) (mC (.int 1))))))
  (mNext))))
  (mRet (m1 gAll (mLc [2] (mItems (mCall d_variables_of [mVarB 0])) (mtName 2) (mYes) (m2 (boolD gIn) (mVarB 2) (mVarB 1))))))))
noncomputable def d_is_rule : List PyData → Pv.R PyData := runD 3 [false] m_is_rule
noncomputable def m_law_terms : Pv.Env → Pv.R Fl := mSeq (mSet 1 .f (m1 gList (m2 gIxS (m2 gIxS (mVarB 0) (mC (.int 0))) (mC (.int 1)))))
  (mSeq (mFor (mItems (m2 gIxS (mVarB 0) (mC (.int 1)))) (mtName 2)
  (mSet 1 .f (m2 gAdd (mVarB 1) (m1 gList (m2 gIxS (m2 gIxS (mVarB 2) (mC (.int 1))) (mC (.int 1)))))))
  (mRet (mVar 1)))
noncomputable def d_law_terms : List PyData → Pv.R PyData := runD 3 [false] m_law_terms
noncomputable def m_law_renamed : Pv.Env → Pv.R Fl := mSeq (mSet 2 .f (m1 gTuple (mLc [3] (mItems (m2 gIxS (mVarB 0) (mC (.int 1)))) (mtName 3) (mYes) (mTup [m2 gIxS (mVarB 3) (mC (.int 0)), mTup [m2 gIxS (m2 gIxS (mVarB 3) (mC (.int 1))) (mC (.int 0)), m1 gTuple (mLc [4] (mItems (m2 gIxS (m2 gIxS (mVarB 3) (mC (.int 1))) (mC (.int 1)))) (mtName 4) (mYes) (mGet2 (mVarB 1) (mVarB 4) (mVar 4)))]]))))
  (mRet (mTup [mTup [m2 gIxS (m2 gIxS (mVarB 0) (mC (.int 0))) (mC (.int 0)), m1 gTuple (mLc [4] (mItems (m2 gIxS (m2 gIxS (mVarB 0) (mC (.int 0))) (mC (.int 1)))) (mtName 4) (mYes) (mGet2 (mVarB 1) (mVarB 4) (mVar 4)))], mVar 2]))
noncomputable def d_law_renamed : List PyData → Pv.R PyData := runD 5 [false, false] m_law_renamed
noncomputable def m_law : Pv.Env → Pv.R Fl := mSeq (mFor (mItems (mCall d_law_rules [mVarB 0])) (mtName 1)
  (mSeq (mSet 2 .f (mCall d_plain [mVarB 1]))
  (mSeq (mIf (mOr (mT2 gIsNot (mCall d_is_rule [mVarB 2]) (mC (.bool true))) (mT2 gNe (mCall d_law_kinds_of [mVarB 2]) (mCall d_law_kinds_of [mVarB 1])))
  (mRet (mC (.bool false)))
  (mNext))
  (mSeq (mSet 3 .o (mDnew))
  (mSeq (mFor (mZip (mCall d_law_terms [mVarB 1]) (mCall d_law_terms [mVarB 2])) (mtTup 2 (mtCons (mtName 4) (mtCons (mtName 5) (mtNil))))
  (mSeq (mSet 8 .f (mVar 4))
  (mSeq (mIf (mT2 gIn (mVarB 4) (mLst [mC (.str "X"), mC (.str "Y"), mC (.str "Z")]))
  (mSeq (mDput 3 (mVarB 4) (mGet2 (mVarB 3) (mVarB 4) (m2 gIxS (mLst [mC (.str "A"), mC (.str "B"), mC (.str "C"), mC (.str "D")]) (m1 gLenD (mVarB 3)))))
  (mSet 8 .f (m2 gDget (mVarB 3) (mVarB 4))))
  (mNext))
  (mIf (mT2 gNe (mVarB 5) (mVarB 8))
  (mRet (mC (.bool false)))
  (mNext)))))
  (mSeq (mSet 6 .f (mC (.str "ABCDEFGHIJKLMNOPQRSTUVWXYZ")))
  (mSeq (mSet 7 .f (mLc [9] (mRng1 (mC (.int 3))) (mtName 9) (mYes) (m2 gAdd (m2 gIxS (mVarB 6) (mCall d_law_mix [m2 gAdd (mCall d_law_cell [mVarB 0, mC (.int 3)]) (mVarB 9), mC (.int 9689), mC (.int 26)])) (m1 gStr (mVarB 9)))))
  (mSeq (mIf (mOr (mT2 gNe (mCall d_plain [mVarB 2]) (mVarB 2)) (mT2 gNe (mCall d_plain [mCall d_law_renamed [mVarB 1, mDictZip (mLst [mC (.str "X"), mC (.str "Y"), mC (.str "Z")]) (mVarB 7)]]) (mVarB 2)))
  (mRet (mC (.bool false)))
  (mNext))
  (mIf (mT2 gNe (mCall d_plain [mCall d_law_renamed [mVarB 1, mDisp [(mC (.str "X"), mC (.str "Y")), (mC (.str "Y"), mC (.str "X"))]]]) (mCall d_plain [mCall d_law_renamed [mVarB 2, mDisp [(mC (.str "A"), mC (.str "C")), (mC (.str "C"), mC (.str "A"))]]]))
  (mRet (mC (.bool false)))
  (mNext))))))))))
  (mRet (mC (.bool true)))
noncomputable def d_law : List PyData → Pv.R PyData := runD 10 [false] m_law

end Lw
namespace Lw
open PySem PySem.W L2 Pv
abbrev At := Str × Tup Str
abbrev Li := Str × At
abbrev Ru := At × Tup Li
def mixF (c m p : Int) : Int := c * 48271 % m % p
theorem mix_spec (c m p : Int) (h1 : 0 < m) (h2 : 0 < p) : d_law_mix [.int c, .int m, .int p] = .ok (.int (mixF c m p)) := by
  show endD (m_law_mix [.bo (.int c), .bo (.int m), .bo (.int p)]) = _
  simp [m_law_mix, endD, mixF, h1, h2]
theorem mix_nn (c m p : Int) (h1 : 0 < m) (h2 : 0 < p) : 0 ≤ mixF c m p := Int.emod_nonneg _ (by omega)
theorem mix_lt (c m p : Int) (h1 : 0 < m) (h2 : 0 < p) : mixF c m p < p := Int.emod_lt_of_pos _ h2
abbrev scr (ns : List Int) : PyData := .list (ns.map .int)
def cellF (ns : List Int) (i : Nat) : Int := (ns[i]?).getD 0
theorem cell_spec (ns : List Int) (i : Nat) : d_law_cell [scr ns, .int i] = .ok (.int (cellF ns i)) := by
  show endD (m_law_cell [.bo (scr ns), .bo (.int i)]) = _
  simp [m_law_cell, endD, cellF]
  by_cases h : i < ns.length
  · have hz : atI (ns.map PyData.int) (i : Int) = some (.int ns[i]) := by
      rw [atI_map, atI_nn (by omega) (by omega)]
      rfl
    simp [h, hz]
  · simp [h]
end Lw

namespace Lw
open PySem PySem.W L2 Pv
abbrev one (c : Nat) : Str := ⟨#[c]⟩
theorem len_app (x y : Str) : (x ++ y).length = x.length + y.length := Array.size_append
theorem cps_app (x y : Str) : (x ++ y).cps.toList = x.cps.toList ++ y.cps.toList := Array.toList_append
theorem len_eq (x : Str) : x.length = x.cps.toList.length := rfl
theorem join_one (cs : List Nat) : Txt.join "" (cs.map one) = ⟨cs.toArray⟩ := by
  show (Builtin.Str.glued (Str.ofString "") _) = _
  rw [StrLaws.glued_eq_join]
  induction cs with
  | nil => rfl
  | cons c cs ih =>
    cases cs with
    | nil => rfl
    | cons d ds =>
      show one c ++ Str.ofString "" ++ Str.join _ ((d :: ds).map one) = _
      rw [ih]
      refine congrArg Str.mk (Array.toList_inj.mp ?_)
      show ((#[c] ++ (Str.ofString "").cps) ++ (d :: ds).toArray).toList = _
      rw [Array.toList_append, Array.toList_append]
      have : (Str.ofString "").cps.toList = [] := by decide
      rw [this]
      rfl
def SM : List Nat := [97,98,99,100,101,102,103,104,105,106,107,108,109,110,111,112,113,114,115,116,117,118,119,120,121,122]
theorem SM_eq : ("abcdefghijklmnopqrstuvwxyz" : Str) = ⟨SM.toArray⟩ := by decide
theorem strs_one : ∀ cs : List Nat, strsOf (cs.map fun c => .str (one c)) = some (cs.map one)
  | [] => rfl
  | c :: cs => by
    rw [List.map_cons, strsOf, strs_one cs]; rfl
def keptW : List Str := ["rule", "fact", "if", "and", "not"]
theorem kept_codes : keptW.map (fun s : Str => s.cps.toList) = [[114, 117, 108, 101], [102, 97, 99, 116], [105, 102], [97, 110, 100], [110, 111, 116]] := by decide
theorem zz_codes : (Str.ofString "zz").cps.toList = [122, 122] := by decide
structure IsWord (x : Str) : Prop where
  lo : 1 ≤ x.length
  hi : x.length ≤ 8
  kept : x ∉ keptW
  sm : ∀ c ∈ x.cps.toList, c ∈ SM
theorem sizeLine_ge : 1000 ≤ sizeLine := by rw [sizeLine_eq]; decide
theorem okR_ex' {r : R PyData} {P : Str → Prop} (h : OkR r (fun d => ∃ x, d = .str x ∧ P x) (fun _ => False)) : ∃ x, r = .ok (.str x) ∧ P x := by
  obtain ⟨d, e, x, rfl, p⟩ := okR_ex h
  exact ⟨x, e, p⟩
theorem sum_ones (cs : List Nat) : ((cs.map one).map (·.length)).sum = cs.length := by
  induction cs with
  | nil => rfl
  | cons c cs ih => rw [List.map_cons, List.map_cons, List.sum_cons, ih, List.length_cons]; show 1 + _ = _; omega
theorem gJoin_one (cs : List Nat) (h : cs.length ≤ 16777216) : gJoin (Str.ofString "") (.list (cs.map fun c => .str (one c))) = .ok (.str ⟨cs.toArray⟩) := by
  unfold gJoin
  have z : (Str.ofString "").length = 0 := by decide
  simp only [strs_one, sum_ones, z, Nat.mul_zero, Nat.add_zero, if_pos h]
  exact congrArg (fun x => R.ok (PyData.str x)) (join_one cs)
theorem word_spec (c i : Int) (fs : List Nat) (hs : ∀ c ∈ fs, c ∈ SM) (h0 : 0 ≤ i) (h1 : i < fs.length) (hl : fs.length ≤ 100) : ∃ x, d_law_word [.int c, .int i, .str ⟨fs.toArray⟩] = .ok (.str x) ∧ IsWord x ∧ x.cps.toList.head? = fs[i.toNat]? := by
  have hz : atI fs i = some fs[i.toNat] := atI_nn h0 h1
  have hf : fs[i.toNat] ∈ SM := hs _ (List.getElem_mem _)
  have m8 := mix_nn (c + i) 9929 8 (by omega) (by omega)
  have m8' := mix_lt (c + i) 9929 8 (by omega) (by omega)
  let cs : List Nat := (irange 0 (mixF (c + i) 9929 8).toNat).map fun k => SM[(mixF (c + 7 * k * k + i) 9931 26).toNat]?.getD 97
  have hcs : ∀ c ∈ cs, c ∈ SM := fun x hx => by
    obtain ⟨k, _, rfl⟩ := List.mem_map.mp hx
    have a := mix_nn (c + 7 * k * k + i) 9931 26 (by omega) (by omega)
    have b := mix_lt (c + 7 * k * k + i) 9931 26 (by omega) (by omega)
    have : (mixF (c + 7 * k * k + i) 9931 26).toNat < SM.length := by show _ < 26; omega
    rw [List.getElem?_eq_getElem this]
    exact List.getElem_mem _
  have hlen : cs.length ≤ 7 := by
    show ((irange 0 _).map _).length ≤ 7
    rw [List.length_map, len_irange]; omega
  have sl := sizeLine_ge
  refine okR_ex' ?_
  show OkR (endD (m_law_word [.bo (.int c), .bo (.int i), .bo (.str ⟨fs.toArray⟩), .un, .un, .un, .un])) _ _
  simp [m_law_word, endD, mix_spec, SM_eq, hz]
  refine ⟨by omega, okR_comp (fun k => .str (one (SM[(mixF (c + 7 * k * k + i) 9931 26).toNat]?.getD 97))) (fun k hk => ?_) ?_⟩
  · have hk' := mem_irange.mp hk
    have a := mix_nn (c + 7 * k * k + i) 9931 26 (by omega) (by omega)
    have b := mix_lt (c + 7 * k * k + i) 9931 26 (by omega) (by omega)
    have hq : atI SM (mixF (c + 7 * k * k + i) 9931 26) = some (SM[(mixF (c + 7 * k * k + i) 9931 26).toNat]?.getD 97) := by
      rw [atI_nn a (by show _ < (26 : Int); omega), List.getElem?_eq_getElem (by show _ < 26; omega)]
      rfl
    simp [mix_spec, hq]
    refine ⟨.inl (by omega), ?_⟩
    show 26 ≤ sizeLine
    omega
  · have hj : gJoin (Str.ofString "") (.list ((irange 0 (mixF (c + i) 9929 8).toNat).map fun k => .str (one (SM[(mixF (c + 7 * k * k + i) 9931 26).toNat]?.getD 97)))) = .ok (.str ⟨cs.toArray⟩) := by
      have e : ((irange 0 (mixF (c + i) 9929 8).toNat).map fun k => PyData.str (one (SM[(mixF (c + 7 * k * k + i) 9931 26).toNat]?.getD 97))) = cs.map fun c => .str (one c) := by rw [List.map_map]; rfl
      rw [e, gJoin_one cs (by omega)]
    rw [hj]
    have hfl : (⟨fs.toArray⟩ : Str).length = fs.length := rfl
    have hx : (⟨#[fs[i.toNat]]⟩ ++ ⟨cs.toArray⟩ : Str).length = 1 + cs.length := by rw [len_app]; rfl
    have hgin := gIn_Ls (⟨#[fs[i.toNat]]⟩ ++ ⟨cs.toArray⟩) ["and", "fact", "if", "rule", "not"]
    simp only [List.map_cons, List.map_nil] at hgin
    have h1l : ∀ c, (⟨#[c]⟩ : Str).length = 1 := fun _ => rfl
    have hcl : (⟨cs.toArray⟩ : Str).length = cs.length := rfl
    simp only [bind_okE, hfl, gAdd_s, hgin, okR_iteS, bind_iteS, h1l, hcl]
    refine ⟨by omega, by omega, ?_⟩
    rw [okR_iteB]
    have hzz : (Str.ofString "zz").length = 2 := by decide
    refine ⟨fun hk => ?_, fun hk => ?_⟩
    · simp [hzz]
      refine ⟨by omega, by omega, ⟨?_, ?_, ?_, ?_⟩, ?_⟩
      · rw [len_app, h1l]; omega
      · rw [len_app, h1l, hzz]; omega
      · intro hm
        have := List.mem_map_of_mem (f := fun s : Str => s.cps.toList) hm
        rw [kept_codes, cps_app, zz_codes] at this
        simp at this
      · intro c hc
        rw [cps_app, zz_codes, List.mem_append] at hc
        rcases hc with hc | hc
        · rw [List.mem_singleton.mp hc]; exact hf
        · simp [SM] at hc ⊢; omega
      · rw [cps_app, List.getElem?_eq_getElem (by omega)]; rfl
    · simp
      refine ⟨⟨by omega, by omega, ?_, ?_⟩, ?_⟩
      · intro hm
        refine hk (decide_eq_true ?_)
        simp only [keptW, List.mem_cons, List.not_mem_nil, or_false] at hm ⊢
        rcases hm with h | h | h | h | h <;> simp [h]
      · intro c hc
        rw [cps_app, List.mem_append] at hc
        rcases hc with hc | hc
        · rw [List.mem_singleton.mp hc]; exact hf
        · exact hcs c hc
      · rw [cps_app, List.getElem?_eq_getElem (by omega)]; rfl
end Lw

namespace Lw
open PySem PySem.W L2 Pv
def strOf : R PyData → Str
  | .ok (.str x) => x
  | _ => ⟨#[]⟩
def AF : List Nat := [97, 98, 99, 100, 101, 102]
def PQ : List Nat := [112, 113, 114, 115, 116, 117]
theorem AF_eq : ("abcdef" : Str) = ⟨AF.toArray⟩ := by decide
theorem PQ_eq : ("pqrstu" : Str) = ⟨PQ.toArray⟩ := by decide
theorem AF_sm : ∀ c ∈ AF, c ∈ SM := by decide
theorem PQ_sm : ∀ c ∈ PQ, c ∈ SM := by decide
noncomputable def wordF (c : Int) (fs : List Nat) (i : Int) : Str := strOf (d_law_word [.int c, .int i, .str ⟨fs.toArray⟩])
theorem word_eq (c i : Int) (fs : List Nat) (hs : ∀ c ∈ fs, c ∈ SM) (h0 : 0 ≤ i) (h1 : i < fs.length) (hl : fs.length ≤ 100) : d_law_word [.int c, .int i, .str ⟨fs.toArray⟩] = .ok (.str (wordF c fs i)) ∧ IsWord (wordF c fs i) ∧ (wordF c fs i).cps.toList.head? = fs[i.toNat]? := by
  obtain ⟨x, e, h⟩ := word_spec c i fs hs h0 h1 hl
  unfold wordF
  rw [e]
  exact ⟨rfl, h⟩
def fewN (ns : List Int) : Nat := if (ns.length : Int) > 63 ∨ mixF (cellF ns 3) 9479 7 = 3 then 4 else 3
noncomputable def wordsF (ns : List Int) : List Str := (irange 0 (fewN ns)).map (wordF (cellF ns 1) AF)
noncomputable def kindF (ns : List Int) (k : Int) : Str := wordF (cellF ns 0) PQ k
noncomputable def kindsF (ns : List Int) : List Str := (irange 0 6).map (kindF ns)
theorem cell_0 (ns : List Int) : d_law_cell [scr ns, .int 0] = .ok (.int (cellF ns 0)) := cell_spec ns 0
theorem cell_1 (ns : List Int) : d_law_cell [scr ns, .int 1] = .ok (.int (cellF ns 1)) := cell_spec ns 1
theorem cell_3 (ns : List Int) : d_law_cell [scr ns, .int 3] = .ok (.int (cellF ns 3)) := cell_spec ns 3
theorem few_le (ns : List Int) : 3 ≤ fewN ns ∧ fewN ns ≤ 4 := by
  unfold fewN
  split <;> omega
theorem words_len (ns : List Int) : (wordsF ns).length = fewN ns := by simp [wordsF]
theorem words_word (ns : List Int) : ∀ x ∈ wordsF ns, IsWord x := fun x hx => by
  obtain ⟨i, hi, rfl⟩ := List.mem_map.mp hx
  have := mem_irange.mp hi
  have := few_le ns
  exact (word_eq _ i AF AF_sm (by omega) (by show _ < (6 : Int); omega) (by decide)).2.1
theorem kind_word (ns : List Int) (k : Int) (h0 : 0 ≤ k) (h1 : k < 6) : IsWord (kindF ns k) := (word_eq _ k PQ PQ_sm h0 h1 (by decide)).2.1
theorem words_spec (ns : List Int) : d_law_words [scr ns] = .ok (.list ((wordsF ns).map .str)) := by
  rw [eq_ok]
  show OkR (endD (m_law_words [.bo (scr ns), .un, .un])) _ _
  have hm := mix_spec (cellF ns 3) 9479 7 (by omega) (by omega)
  have fw := few_le ns
  have fin : OkR ((compD (mtName 2) mYes (mCall d_law_word [mCall d_law_cell [mVarB 0, mC (PyData.int 1)], mVarB 2, mC (PyData.str (Str.ofString "abcdef"))]) [Sl.bo (scr ns), Sl.fr (.int (fewN ns)), Sl.un] ((irange 0 (fewN ns)).map .int)).bind fun ys => R.ok (PyData.list ys)) (fun d => d = .list ((wordsF ns).map .str)) (fun _ => False) := by
    refine okR_comp (fun k => .str (wordF (cellF ns 1) AF k)) (fun k hk => ?_) ?_
    · have hk' := mem_irange.mp hk
      have hw := (word_eq (cellF ns 1) k AF AF_sm (by omega) (by show _ < (6 : Int); omega) (by decide)).1
      simp [cell_1, AF_eq, hw]
    · simp [wordsF]
  by_cases h1 : (63 : Int) < ns.length
  · have hf : fewN ns = 4 := if_pos (.inl h1)
    rw [hf] at fin
    simp [m_law_words, endD, h1]
    simpa using fin
  · by_cases h2 : mixF (cellF ns 3) 9479 7 = 3
    · have hf : fewN ns = 4 := if_pos (.inr h2)
      rw [hf] at fin
      simp [m_law_words, endD, h1, cell_3, hm, h2]
      simpa using fin
    · have hf : fewN ns = 3 := if_neg (by omega)
      rw [hf] at fin
      simp [m_law_words, endD, h1, cell_3, hm, h2]
      simpa using fin
theorem kinds_spec (ns : List Int) : d_law_kinds [scr ns] = .ok (.list ((kindsF ns).map .str)) := by
  rw [eq_ok]
  show OkR (endD (m_law_kinds [.bo (scr ns), .un])) _ _
  simp [m_law_kinds, endD]
  refine okR_comp (fun k => .str (kindF ns k)) (fun k hk => ?_) ?_
  · have hk' := mem_irange.mp hk
    have hw := (word_eq (cellF ns 0) k PQ PQ_sm (by omega) (by show _ < (6 : Int); omega) (by decide)).1
    simp [cell_0, PQ_eq, hw, kindF]
  · simp [kindsF]
theorem kinds_at (ns : List Int) (k : Int) (h0 : 0 ≤ k) (h1 : k < 6) : atI ((kindsF ns).map PyData.str) k = some (.str (kindF ns k)) := by
  rw [atI_map, atI_nn h0 (by simp [kindsF]; omega)]
  simp [kindsF, irange, Int.toNat_of_nonneg h0]
def sizeF (ns : List Int) (k : Int) : Int := ([2, 1, 2, 1, 0, 2] : List Int)[k.toNat]?.getD 0 + (if mixF (cellF ns 1 + k) 9923 7 = 0 then 1 else 0)
theorem size_lo (ns : List Int) (k : Int) : 0 ≤ sizeF ns k ∧ sizeF ns k ≤ 3 := by
  have : 0 ≤ ([2, 1, 2, 1, 0, 2] : List Int)[k.toNat]?.getD 0 ∧ ([2, 1, 2, 1, 0, 2] : List Int)[k.toNat]?.getD 0 ≤ 2 := by
    by_cases h : k.toNat < 6
    · have : k.toNat = 0 ∨ k.toNat = 1 ∨ k.toNat = 2 ∨ k.toNat = 3 ∨ k.toNat = 4 ∨ k.toNat = 5 := by omega
      rcases this with h | h | h | h | h | h <;> rw [h] <;> decide
    · rw [List.getElem?_eq_none (by show 6 ≤ _; omega)]; decide
  unfold sizeF
  split <;> omega
theorem size_spec (ns : List Int) (k : Int) (h0 : 0 ≤ k) (h1 : k < 6) : d_law_size [scr ns, .int k] = .ok (.int (sizeF ns k)) := by
  have hz : atI [PyData.int 2, .int 1, .int 2, .int 1, .int 0, .int 2] k = some (.int (([2, 1, 2, 1, 0, 2] : List Int)[k.toNat]?.getD 0)) := by
    rw [show [PyData.int 2, .int 1, .int 2, .int 1, .int 0, .int 2] = ([2, 1, 2, 1, 0, 2] : List Int).map .int from rfl, atI_map, atI_nn h0 (by show k < (6 : Int); omega), List.getElem?_eq_getElem (by show _ < 6; omega)]
    rfl
  rw [eq_ok]
  show OkR (endD (m_law_size [.bo (scr ns), .bo (.int k)])) _ _
  have hm := mix_spec (cellF ns 1 + k) 9923 7 (by omega) (by omega)
  simp [m_law_size, endD, cell_1, hm, hz, sizeF]
theorem some_spec (c : Int) (xs : List Str) (h : xs ≠ []) : ∃ x, d_law_some [.int c, .list (xs.map .str)] = .ok (.str x) ∧ x ∈ xs := by
  have hl : 0 < xs.length := List.length_pos_iff.mpr h
  have hm := mix_spec c 9907 xs.length (by omega) (by omega)
  obtain ⟨x, hx, e⟩ := atI_mem (xs := xs) (mix_nn c 9907 xs.length (by omega) (by omega)) (mix_lt c 9907 xs.length (by omega) (by omega))
  refine ⟨x, ?_, hx⟩
  rw [eq_ok]
  show OkR (endD (m_law_some [.bo (.int c), .bo (.list (xs.map .str))])) _ _
  simp [m_law_some, endD, hm, atI_map, e]
noncomputable def someF (c : Int) (xs : List Str) : Str := strOf (d_law_some [.int c, .list (xs.map .str)])
theorem some_eq (c : Int) (xs : List Str) (h : xs ≠ []) : d_law_some [.int c, .list (xs.map .str)] = .ok (.str (someF c xs)) ∧ someF c xs ∈ xs := by
  obtain ⟨x, e, h⟩ := some_spec c xs h
  unfold someF
  rw [e]
  exact ⟨rfl, h⟩
end Lw

namespace Lw
open PySem PySem.W L2 Pv
abbrev strsD (xs : List Str) : List PyData := xs.map .str
abbrev atD (a : At) : PyData := .tuple [.str a.1, .tuple (strsD a.2.items)]
abbrev liD (l : Li) : PyData := .tuple [.str l.1, atD l.2]
abbrev ruD (r : Ru) : PyData := .tuple [atD r.1, .tuple (r.2.items.map liD)]
theorem atD_eq (a : At) : Datum.toD a = atD a := rfl
theorem liD_eq (l : Li) : Datum.toD l = liD l := rfl
theorem ruD_eq (r : Ru) : Datum.toD r = ruD r := rfl
noncomputable def w0 (ns : List Int) : Str := wordF (cellF ns 1) AF 0
noncomputable def w1 (ns : List Int) : Str := wordF (cellF ns 1) AF 1
noncomputable def VT (ns : List Int) : List Str := ["X", "Y", "Z", "X", "Y", w0 ns, w1 ns]
structure AtomOf (ns : List Int) (k : Int) (P : Str → Prop) (a : At) : Prop where
  kind : a.1 = kindF ns k
  size : (a.2.items.length : Int) = sizeF ns k
  terms : ∀ t ∈ a.2.items, P t
structure YesLit (ns : List Int) (hd : Int) (pu : Bool) (l : Li) : Prop where
  yes : l.1 = "yes"
  ex : ∃ k, 0 ≤ k ∧ k < 6 ∧ (pu = false → k ≤ hd) ∧ AtomOf ns k (· ∈ VT ns) l.2
theorem words_at (ns : List Int) (i : Int) (h0 : 0 ≤ i) (h1 : i < 3) : atI ((wordsF ns).map PyData.str) i = some (.str (wordF (cellF ns 1) AF i)) := by
  have := few_le ns
  rw [atI_map, atI_nn h0 (by rw [words_len]; omega)]
  simp [wordsF, irange, Int.toNat_of_nonneg h0]
theorem words_0 (ns : List Int) : atI ((wordsF ns).map PyData.str) 0 = some (.str (w0 ns)) := words_at ns 0 (by decide) (by decide)
theorem words_1 (ns : List Int) : atI ((wordsF ns).map PyData.str) 1 = some (.str (w1 ns)) := words_at ns 1 (by decide) (by decide)
noncomputable def bodyE (ns : List Int) (c hd : Int) (pu : Bool) (ls : List Li) (x : Int) (j8 j9 j10 : Sl) : Pv.Env := [.bo (scr ns), .bo (.int c), .bo (.int hd), .bo (.bool pu), .fr (.list (strsD (wordsF ns))), .fr (.list (strsD (kindsF ns))), .ow (.list (ls.map liD)), .fr (.int x), j8, j9, j10]
theorem body_spec (ns : List Int) (c hd : Int) (pu : Bool) (h0 : 0 ≤ hd) (h1 : hd < 6) : ∃ ls : List Li, d_law_body [scr ns, .int c, .int hd, .bool pu] = .ok (.list (ls.map liD)) ∧ ls.length ≤ 3 ∧ ∀ l ∈ ls, YesLit ns hd pu l := by
  have key : OkR (d_law_body [scr ns, .int c, .int hd, .bool pu]) (fun d => ∃ ls : List Li, d = .list (ls.map liD) ∧ ls.length ≤ 3 ∧ ∀ l ∈ ls, YesLit ns hd pu l) (fun _ => False) := by
    show OkR (endO (m_law_body [.bo (scr ns), .bo (.int c), .bo (.int hd), .bo (.bool pu), .un, .un, .un, .un, .un, .un, .un])) _ _
    rw [okR_endO, m_law_body]
    have m1 := mix_spec c 9901 4 (by omega) (by omega)
    have m1a := mix_nn c 9901 4 (by omega) (by omega)
    have m1b := mix_lt c 9901 4 (by omega) (by omega)
    simp [words_spec, kinds_spec, m1]
    refine ⟨by omega, ?_⟩
    refine okR_forK (fun rest ρ => ∃ ls j7 j8 j9 j10, ρ = [.bo (scr ns), .bo (.int c), .bo (.int hd), .bo (.bool pu), .fr (.list (strsD (wordsF ns))), .fr (.list (strsD (kindsF ns))), .ow (.list (ls.map liD)), j7, j8, j9, j10] ∧ ls.length + rest.length ≤ 3 ∧ ∀ l ∈ ls, YesLit ns hd pu l)
      ⟨[], .un, .un, .un, .un, rfl, by simp; omega, fun _ h => nomatch h⟩ ?_ ?_
    · rintro x rest _ hx ⟨ls, j7, j8, j9, j10, rfl, hl, hls⟩
      have hx' := mem_irange.mp hx
      rw [mtName_e, bind_okE]
      simp only [List.set_cons_succ, List.set_cons_zero]
      have m2 := mix_spec (c + 31 * x) 9887 (hd + 1) (by omega) (by omega)
      have m2a := mix_nn (c + 31 * x) 9887 (hd + 1) (by omega) (by omega)
      have m2b := mix_lt (c + 31 * x) 9887 (hd + 1) (by omega) (by omega)
      have m3 := mix_spec (c + 31 * x) 9887 6 (by omega) (by omega)
      have m3a := mix_nn (c + 31 * x) 9887 6 (by omega) (by omega)
      have m3b := mix_lt (c + 31 * x) 9887 6 (by omega) (by omega)
      have m4 := mix_spec c 9883 2 (by omega) (by omega)
      refine okR_seq (fun ρ => ρ = bodyE ns c hd pu ls x (.fr (.int (mixF (c + 31 * x) 9887 (hd + 1)))) j9 j10) (by simp [m2, bodyE]) ?_
      rintro _ rfl
      refine okR_seq (fun ρ => ∃ k, 0 ≤ k ∧ k < 6 ∧ (pu = false → k ≤ hd) ∧ ρ = bodyE ns c hd pu ls x (.fr (.int k)) j9 j10) ?_ ?_
      · cases pu with
        | true => simp [m3, bodyE]; exact ⟨m3a, m3b⟩
        | false => simp [bodyE]; exact ⟨_, m2a, by omega, by omega, rfl⟩
      rintro _ ⟨k, k0, k6, kh, rfl⟩
      refine okR_seq (fun ρ => ∃ k, 0 ≤ k ∧ k < 6 ∧ (pu = false → k ≤ hd) ∧ ρ = bodyE ns c hd pu ls x (.fr (.int k)) j9 j10) ?_ ?_
      · by_cases hc : x = 0
        · by_cases hk : k = hd
          · by_cases h2 : mixF c 9883 2 = 0
            · simp [bodyE, hc, hk, m4, h2]; exact ⟨0, by omega, by omega, fun _ => h0, rfl⟩
            · simp [bodyE, hc, hk, m4, h2]; exact ⟨hd, h0, h1, fun _ => Int.le_refl _, rfl⟩
          · simp [bodyE, hc, hk]; exact ⟨k, k0, k6, kh, rfl⟩
        · simp [bodyE, hc]; exact ⟨k, k0, k6, kh, rfl⟩
      clear k0 k6 kh k
      rintro _ ⟨k, k0, k6, kh, rfl⟩
      refine okR_seq (fun ρ => ρ = bodyE ns c hd pu ls x (.fr (.int k)) (.ow (.list [])) j10) (by simp [bodyE]) ?_
      rintro _ rfl
      refine okR_seq (fun ρ => ∃ (ts : List Str) (j10 : Sl), (ts.length : Int) = sizeF ns k ∧ (∀ t ∈ ts, t ∈ VT ns) ∧ ρ = bodyE ns c hd pu ls x (.fr (.int k)) (.ow (.list (strsD ts))) j10) ?_ ?_
      · simp only [bodyE]
        have sl := size_lo ns k
        simp [size_spec ns k k0 k6]
        refine ⟨by omega, ?_⟩
        refine okR_forE (fun rest ρ => ∃ (ts : List Str) (j10 : Sl), (ts.length : Int) + rest.length = sizeF ns k ∧ (∀ t ∈ ts, t ∈ VT ns) ∧ ρ = bodyE ns c hd pu ls x (.fr (.int k)) (.ow (.list (strsD ts))) j10) ⟨[], j10, by simp; omega, fun _ h => (nomatch h), rfl⟩ ?_ ?_
        · rintro y rest _ hy ⟨ts, j10, hl, hts, rfl⟩
          have hy' := mem_irange.mp hy
          have hso := some_eq (c + 13 * x + 5 * y) (VT ns) (by simp [VT])
          simp only [VT, List.map_cons, List.map_nil] at hso
          simp [bodyE, words_0, words_1, hso.1]
          have sl' := sizeLine_ge
          have hl' : ((y :: rest).length : Int) = rest.length + 1 := by simp
          refine ⟨by omega, ts ++ [someF (c + 13 * x + 5 * y) ["X", "Y", "Z", "X", "Y", w0 ns, w1 ns]], ?_, ?_, by simp [strsD]⟩
          · rw [List.length_append, List.length_singleton]; omega
          · intro t ht
            rcases List.mem_append.mp ht with ht | ht
            · exact hts t ht
            · rw [List.mem_singleton.mp ht]; exact hso.2
        · rintro _ ⟨ts, j10, hl, hts, rfl⟩
          exact ⟨_, rfl, ts, by simpa using hl, hts, j10, rfl⟩
      rintro _ ⟨ts, j10, hts0, hts, rfl⟩
      simp [bodyE, kinds_at ns k k0 k6]
      have sl' := sizeLine_ge
      simp at hl
      refine ⟨by omega, ls ++ [((("yes" : Str), (kindF ns k, Tup.mk ts)) : Li)], by simp, by rw [List.length_append, List.length_singleton]; omega, fun a b t h => ?_⟩
      rcases List.mem_append.mp h with h | h
      · exact hls _ h
      · rw [List.mem_singleton.mp h]
        exact ⟨rfl, k, k0, k6, kh, rfl, hts0, hts⟩
    · rintro _ ⟨ls, j7, j8, j9, j10, rfl, hl, hls⟩
      simp
      exact ⟨ls, rfl, by simpa using hl, fun a b c h => hls _ h⟩
  obtain ⟨d, e, ls, rfl, h⟩ := okR_ex key
  exact ⟨ls, e, h⟩
end Lw

namespace Lw
open PySem PySem.W L2 Pv
theorem atI_last {α : Type} (xs : List α) (h : xs ≠ []) : atI xs (-1) = some (xs.getLast h) := by
  have hl : 0 < xs.length := List.length_pos_iff.mpr h
  unfold atI ixN
  rw [if_neg (by decide), if_pos (by omega)]
  show xs[((xs.length : Int) + -1).toNat]? = _
  rw [show ((xs.length : Int) + -1).toNat = xs.length - 1 by omega, List.getElem?_eq_getElem (by omega), List.getLast_eq_getElem]
abbrev XYZ : List Str := ["X", "Y", "Z"]
theorem in_XYZ (t : Str) : gIn (.str t) (.list [.str (Str.ofString "X"), .str (Str.ofString "Y"), .str (Str.ofString "Z")]) = .ok (decide (t ∈ XYZ)) := gIn_Ls t XYZ
def bOK (ls : List Li) (v : Str) : Prop := v ∈ XYZ ∧ ∃ l ∈ ls, v ∈ l.2.2.items
def bInv (ls : List Li) (n : Nat) (ρ : Pv.Env) : Prop := ∃ (vs : List Str) (j2 j3 : Sl), ρ = [.bo (.list (ls.map liD)), .ow (.list (strsD vs)), j2, j3] ∧ vs.length + n ≤ 12 ∧ ∀ v ∈ vs, bOK ls v
def bEnd (ls : List Li) (d : PyData) : Prop := ∃ vs : List Str, d = .list (strsD vs) ∧ vs.length ≤ 12 ∧ ∀ v ∈ vs, bOK ls v
theorem bound_spec (ls : List Li) (h4 : ls.length ≤ 4) (h3 : ∀ l ∈ ls, l.2.2.items.length ≤ 3) : ∃ vs : List Str, d_law_bound [.list (ls.map liD)] = .ok (.list (strsD vs)) ∧ vs.length ≤ 12 ∧ ∀ v ∈ vs, bOK ls v := by
  have key : OkR (d_law_bound [.list (ls.map liD)]) (bEnd ls) (fun _ => False) := by
    show OkR (endD (m_law_bound [.bo (.list (ls.map liD)), .un, .un, .un])) _ _
    rw [okR_end, m_law_bound]
    have sl' := sizeLine_ge
    simp
    refine okR_forK (fun rest ρ => bInv ls (3 * rest.length) ρ) ⟨[], .un, .un, rfl, by simp; omega, fun _ h => nomatch h⟩ ?_ ?_
    · rintro x rest _ hx ⟨vs, j2, j3, rfl, hl, hvs⟩
      have hx3 := h3 x hx
      rw [mtName_e, bind_okE]
      have e1 : atI [PyData.str x.1, atD x.2] 1 = some (atD x.2) := rfl
      have e2 : atI [PyData.str x.2.1, .tuple (strsD x.2.2.items)] 1 = some (.tuple (strsD x.2.2.items)) := rfl
      simp [e1, e2]
      refine okR_forE (fun rest2 ρ => bInv ls (rest2.length + 3 * rest.length) ρ) ⟨vs, _, j3, rfl, by simp at hl; omega, hvs⟩ ?_ ?_
      · rintro t rest2 _ ht ⟨vs, j2, j3, rfl, hl, hvs⟩
        rw [mtName_e, bind_okE]
        simp at hl
        by_cases hc : t ∈ XYZ
        · by_cases hd : t ∈ vs
          · simp [in_XYZ, hc, gIn_Ls, hd]
            exact ⟨vs, _, _, rfl, by omega, hvs⟩
          · simp [in_XYZ, hc, gIn_Ls, hd]
            refine ⟨by omega, vs ++ [t], j2, .fr (.str t), by simp [strsD], by rw [List.length_append, List.length_singleton]; omega, fun v hv => ?_⟩
            rcases List.mem_append.mp hv with hv | hv
            · exact hvs v hv
            · rw [List.mem_singleton.mp hv]; exact ⟨hc, x, hx, ht⟩
        · simp [in_XYZ, hc]
          exact ⟨vs, _, _, rfl, by omega, hvs⟩
      · exact fun _ h => by simpa using h
    · rintro _ ⟨vs, j2, j3, rfl, hl, hvs⟩
      simp
      exact ⟨vs, rfl, by simpa using hl, hvs⟩
  obtain ⟨d, e, vs, rfl, h⟩ := okR_ex key
  exact ⟨vs, e, h⟩
noncomputable def wl (ns : List Int) : Str := (wordsF ns).getLast (by have h := few_le ns; have e := words_len ns; intro z; rw [z] at e; simp at e; omega)
theorem words_ne (ns : List Int) : wordsF ns ≠ [] := by have h := few_le ns; have e := words_len ns; intro z; rw [z] at e; simp at e; omega
theorem words_last (ns : List Int) : atI ((wordsF ns).map PyData.str) (-1) = some (.str (wl ns)) := by
  rw [atI_map, atI_last _ (words_ne ns)]; rfl
theorem wl_mem (ns : List Int) : wl ns ∈ wordsF ns := List.getLast_mem _
theorem w0_mem (ns : List Int) : w0 ns ∈ wordsF ns := List.mem_map.mpr ⟨0, mem_irange.mpr (by have := few_le ns; omega), rfl⟩
theorem w1_mem (ns : List Int) : w1 ns ∈ wordsF ns := List.mem_map.mpr ⟨1, mem_irange.mpr (by have := few_le ns; omega), rfl⟩
def SafeB (ns : List Int) (ls : List Li) (t : Str) : Prop := t ∈ wordsF ns ∨ (t ∈ XYZ ∧ ∃ l ∈ ls, l.1 = "yes" ∧ t ∈ l.2.2.items)
structure NoLit (ns : List Int) (hd : Int) (pu : Bool) (ls : List Li) (l : Li) : Prop where
  no : l.1 = "no"
  pure : pu = false
  ex : ∃ k, 0 ≤ k ∧ k < hd ∧ AtomOf ns k (SafeB ns ls) l.2
structure DrawnRule (ns : List Int) (pu : Bool) (r : Ru) : Prop where
  len : r.2.items.length ≤ 4
  ex : ∃ hd, 0 ≤ hd ∧ hd < 6 ∧ AtomOf ns hd (SafeB ns r.2.items) r.1 ∧ ∀ l ∈ r.2.items, YesLit ns hd pu l ∨ NoLit ns hd pu r.2.items l
def ruleEnd (ns : List Int) (pu : Bool) (d : PyData) : Prop := ∃ r : Ru, d = ruD r ∧ DrawnRule ns pu r
noncomputable def BT (ns : List Int) (vs : List Str) : List Str := vs ++ [w0 ns, wl ns]
noncomputable def ruleE (ns : List Int) (c hd : Int) (pu : Bool) (ls : List Li) (vs : List Str) (j6 j7 j8 : Sl) : Pv.Env := [.bo (scr ns), .bo (.int c), .bo (.bool pu), .fr (.int hd), .ow (.list (ls.map liD)), .fr (.list (strsD (BT ns vs))), j6, j7, j8]
def ruleI (ns : List Int) (c hd : Int) (pu : Bool) (n : Nat) (ρ : Pv.Env) : Prop := ∃ (ls : List Li) (vs : List Str) (j6 j7 j8 : Sl), ρ = ruleE ns c hd pu ls vs j6 j7 j8 ∧ ls.length ≤ n ∧ (∀ l ∈ ls, YesLit ns hd pu l ∨ NoLit ns hd pu ls l) ∧ ∀ t ∈ BT ns vs, SafeB ns ls t
theorem BT_ne (ns : List Int) (vs : List Str) : BT ns vs ≠ [] := by simp [BT]
/-- the comprehension of a drawn atom's terms -/
theorem terms_comp {ns : List Int} {ρ : Pv.Env} {k : Int} {xs : List Str} {P : Str → Prop} {mt : PyData → Pv.Env → R Pv.Env} {me : Pv.Env → R PyData} (f : Int → Int) (hx : xs ≠ []) (hP : ∀ t ∈ xs, P t) (h : ∀ x ∈ irange 0 (sizeF ns k).toNat, (mt (.int x) ρ).bind me = d_law_some [.int (f x), .list (strsD xs)]) :
    ∃ ts : List Str, compD mt mYes me ρ ((irange 0 (sizeF ns k).toNat).map .int) = .ok (strsD ts) ∧ (ts.length : Int) = sizeF ns k ∧ ∀ t ∈ ts, P t := by
  have sl := size_lo ns k
  obtain ⟨ys, h1, h2, h3⟩ := compD_ex (ρ := ρ) (mt := mt) (me := me) (enc := PyData.int) (enc' := PyData.str) (P := fun _ t => P t) (xs := irange 0 (sizeF ns k).toNat) fun x hx' => by
    obtain ⟨e, hm⟩ := some_eq (f x) xs hx
    exact ⟨_, (h x hx').trans e, hP _ hm⟩
  refine ⟨ys, h1, ?_, fun t ht => ?_⟩
  · rw [h2, len_irange]; omega
  · obtain ⟨_, _, p⟩ := h3 t ht; exact p
theorem okR_terms {ns : List Int} {ρ : Pv.Env} {k : Int} {xs : List Str} {P : Str → Prop} {mt : PyData → Pv.Env → R Pv.Env} {me : Pv.Env → R PyData} {β : Type} {K : List PyData → R β} {kk : β → Prop} {w : Xn → Prop} (f : Int → Int) (hx : xs ≠ []) (hP : ∀ t ∈ xs, P t) (h : ∀ x ∈ irange 0 (sizeF ns k).toNat, (mt (.int x) ρ).bind me = d_law_some [.int (f x), .list (strsD xs)])
    (hk : ∀ ts : List Str, (ts.length : Int) = sizeF ns k → (∀ t ∈ ts, P t) → OkR (K (strsD ts)) kk w) : OkR ((compD mt mYes me ρ ((irange 0 (sizeF ns k).toNat).map .int)).bind K) kk w := by
  obtain ⟨ts, h1, h2, h3⟩ := terms_comp (P := P) f hx hP h
  rw [h1, bind_okE]
  exact hk ts h2 h3
theorem rule_spec (ns : List Int) (c : Int) (pu : Bool) : ∃ r : Ru, d_law_rule [scr ns, .int c, .bool pu] = .ok (ruD r) ∧ DrawnRule ns pu r := by
  have key : OkR (d_law_rule [scr ns, .int c, .bool pu]) (ruleEnd ns pu) (fun _ => False) := by
    show OkR (endD (m_law_rule [.bo (scr ns), .bo (.int c), .bo (.bool pu), .un, .un, .un, .un, .un, .un])) _ _
    rw [okR_end, m_law_rule]
    have sl' := sizeLine_ge
    have m1 := mix_spec c 9871 6 (by omega) (by omega)
    have h0 := mix_nn c 9871 6 (by omega) (by omega)
    have h6 := mix_lt c 9871 6 (by omega) (by omega)
    generalize mixF c 9871 6 = hd at m1 h0 h6
    refine okR_seq (fun ρ => ρ = [.bo (scr ns), .bo (.int c), .bo (.bool pu), .fr (.int hd), .un, .un, .un, .un, .un]) (by simp [m1]) ?_
    rintro _ rfl
    obtain ⟨ls, hb, hl, hY⟩ := body_spec ns c hd pu h0 h6
    refine okR_seq (fun ρ => ρ = [.bo (scr ns), .bo (.int c), .bo (.bool pu), .fr (.int hd), .ow (.list (ls.map liD)), .un, .un, .un, .un]) (by simp [hb]) ?_
    rintro _ rfl
    have h3 : ∀ l ∈ ls, l.2.2.items.length ≤ 3 := fun l h => by
      obtain ⟨_, k, _, _, _, _, hs, _⟩ := hY l h
      have := size_lo ns k
      omega
    obtain ⟨vs, hv, hvl, hvo⟩ := bound_spec ls (by omega) h3
    refine okR_seq (fun ρ => ruleI ns c hd pu 3 ρ) ?_ ?_
    · simp [hv, words_spec, words_0, words_last]
      refine ⟨by omega, ls, vs, .un, .un, .un, by simp [ruleE, BT, strsD], hl, fun l h => .inl (hY l h), fun t ht => ?_⟩
      rcases List.mem_append.mp ht with ht | ht
      · obtain ⟨hx, l, h, hm⟩ := hvo t ht
        exact .inr ⟨hx, l, h, (hY l h).yes, hm⟩
      · simp at ht
        rcases ht with rfl | rfl
        · exact .inl (w0_mem ns)
        · exact .inl (wl_mem ns)
    clear hv hvl hvo hY hl hb h3 vs ls
    rintro _ ⟨ls, vs, j6, j7, j8, rfl, hl, hY, hB⟩
    refine okR_seq (fun ρ => ruleI ns c hd pu 4 ρ) ?_ ?_
    · have stay : ruleI ns c hd pu 4 (ruleE ns c hd pu ls vs j6 j7 j8) := ⟨ls, vs, j6, j7, j8, rfl, by omega, hY, hB⟩
      unfold ruleE at stay ⊢
      cases pu with
      | true => simp; exact stay
      | false =>
        by_cases z : 0 < hd
        · have m2 := mix_spec c 9859 3 (by omega) (by omega)
          by_cases y : mixF c 9859 3 = 0
          · have m3 := mix_spec c 9857 hd (by omega) z
            have m3a := mix_nn c 9857 hd (by omega) z
            have m3b := mix_lt c 9857 hd (by omega) z
            generalize mixF c 9857 hd = k at m3 m3a m3b
            have m4 := mix_spec c 9851 (ls.length + 1) (by omega) (by omega)
            have m4a := mix_nn c 9851 (ls.length + 1) (by omega) (by omega)
            have m4b := mix_lt c 9851 (ls.length + 1) (by omega) (by omega)
            have hl4 : (ls.length : Int) < 4 := by omega
            have sl := size_lo ns k
            simp [z, y, m2, m3, hl4, size_spec ns k m3a (by omega)]
            refine ⟨by omega, okR_terms (fun x => c + 3 + x) (BT_ne ns vs) hB (fun x hx => by simp) fun ts hts hS => ?_⟩
            simp [m4, kinds_spec, kinds_at ns k m3a (by omega)]
            refine ⟨⟨by omega, m4a, by omega⟩, ?_⟩
            generalize (mixF c 9851 (ls.length + 1)).toNat = q
            have hI : ∀ l : Li, l ∈ ls.take q ++ (((("no" : Str), (kindF ns k, Tup.mk ts)) : Li) :: ls.drop q) ↔ l ∈ ls ∨ l = (("no" : Str), (kindF ns k, Tup.mk ts)) := fun l => by
              rw [List.mem_append, List.mem_cons]
              constructor
              · rintro (h | h | h)
                · exact .inl (List.mem_of_mem_take h)
                · exact .inr h
                · exact .inl (List.mem_of_mem_drop h)
              · rintro (h | h)
                · rw [← List.take_append_drop q ls, List.mem_append] at h
                  exact h.elim .inl fun h => .inr (.inr h)
                · exact .inr (.inl h)
            have mono : ∀ t, SafeB ns ls t → SafeB ns (ls.take q ++ (((("no" : Str), (kindF ns k, Tup.mk ts)) : Li) :: ls.drop q)) t := fun t h => h.imp id fun ⟨a, l, hl, b⟩ => ⟨a, l, (hI l).mpr (.inl hl), b⟩
            refine ⟨ls.take q ++ (((("no" : Str), (kindF ns k, Tup.mk ts)) : Li) :: ls.drop q), vs, _, _, _, by simp [ruleE, List.map_take, List.map_drop]; exact ⟨rfl, rfl, rfl⟩, ?_, fun l h => ?_, fun t ht => mono t (hB t ht)⟩
            · simp; omega
            · rcases (hI l).mp h with h | rfl
              · refine (hY l h).imp id fun z => ⟨z.no, z.pure, ?_⟩
                obtain ⟨k, a, b, c⟩ := z.ex
                exact ⟨k, a, b, c.kind, c.size, fun t ht => mono t (c.terms t ht)⟩
              · exact .inr ⟨rfl, rfl, k, m3a, m3b, rfl, hts, fun t ht => mono t (hS t ht)⟩
          · simp [z, y, m2]
            exact stay
        · simp [z]; exact stay
    · clear hl hY hB ls vs
      rintro _ ⟨ls, vs, j6, j7, j8, rfl, hl, hY, hB⟩
      have sl := size_lo ns hd
      simp [ruleE, size_spec ns hd h0 h6]
      refine ⟨by omega, okR_terms (fun x => c + 17 * x) (BT_ne ns vs) hB (fun x hx => by simp) fun ts hts hS => ?_⟩
      simp [kinds_spec, kinds_at ns hd h0 h6]
      exact ⟨((kindF ns hd, Tup.mk ts), Tup.mk ls), rfl, hl, hd, h0, h6, ⟨rfl, hts, hS⟩, hY⟩
  obtain ⟨d, e, r, rfl, h⟩ := okR_ex key
  exact ⟨r, e, h⟩
end Lw

namespace Lw
open PySem PySem.W L2 Pv
open Classical in
noncomputable def isWordD : PyData → Bool
  | .str x => decide (IsWord x)
  | _ => false
def GR : List Nat := [65,66,67,68,69,70,71,72,73,74,75,76,77,78,79,80,81,82,83,84,85,86,87,88,89,90]
def FG : List Nat := [48,49,50,51,52,53,54,55,56,57]
theorem GR_eq : ("ABCDEFGHIJKLMNOPQRSTUVWXYZ" : Str) = ⟨GR.toArray⟩ := by decide
theorem FG_eq : ("0123456789" : Str) = ⟨FG.toArray⟩ := by decide
def IsVar (x : Str) : Prop := (∃ c, c ∈ GR ∧ x.cps.toList = [c]) ∨ ∃ c d, c ∈ GR ∧ d ∈ FG ∧ x.cps.toList = [c, d]
open Classical in
noncomputable def isVarD : PyData → Bool
  | .str x => decide (IsVar x)
  | _ => false
theorem kept_in (x : Str) : gIn (.str x) c_KEPT = .ok (decide (x ∈ keptW)) := gIn_Ts x keptW
theorem is_word_spec {n : Nat} (d : PyData) (h : tame n d) : d_is_word [d] = .ok (.bool (isWordD d)) := by
  rw [eq_ok]
  show OkR (endD (m_is_word [.bo d, .un])) _ _
  rw [okR_end, m_is_word]
  have sl := sizeLine_ge
  cases d with
  | str x =>
    have hx : x.length ≤ 1000 := by cases n <;> simpa [tame] using h
    have hsl : x.length ≤ sizeLine := by omega
    have hs : gIsa PyData.isStr (.str x) = .ok (.bool true) := gIsa_tame h
    simp only [isWordD]
    by_cases h1 : (1 : Int) ≤ x.length
    · by_cases h8 : (x.length : Int) ≤ 8
      · by_cases hk : x ∈ keptW
        · simp [hs, hsl, h1, h8, kept_in, hk]
          exact fun z => (z.kept hk).elim
        · simp [hs, hsl, h1, h8, kept_in, hk, signsD, SM_eq]
          refine okR_forall (enc := fun c => .str ⟨#[c]⟩) (fun ρ => ∃ j, ρ = [.bo (.str x), j]) (· ∈ SM) (.bool false) ⟨_, rfl⟩ ?_ ?_ ?_
          · rintro c _ hc ⟨j, rfl⟩
            rw [mtName_e, bind_okE]
            by_cases hm : c ∈ SM
            · simp [hm]
            · simp [hm]
          · rintro ha _ ⟨j, rfl⟩
            simp
            exact ⟨by omega, by omega, hk, ha⟩
          · intro ha ρ
            simp
            exact fun z => ha z.sm
      · simp [hs, hsl, h1, h8]
        exact fun z => by have := z.hi; omega
    · simp [hs, hsl, h1]
      exact fun z => by have := z.lo; omega
  | _ => simp [gIsa_tame h, isWordD, PyData.isStr]
theorem is_var_spec {n : Nat} (d : PyData) (h : tame n d) : d_is_variable [d] = .ok (.bool (isVarD d)) := by
  rw [eq_ok]
  show OkR (endD (m_is_variable [.bo d])) _ _
  rw [okR_end, m_is_variable]
  have sl := sizeLine_ge
  have s1 : 1 ≤ sizeLine := by omega
  have s2 : 2 ≤ sizeLine := by omega
  cases d with
  | str x =>
    have hx : x.length ≤ 1000 := by cases n <;> simpa [tame] using h
    have hsl : x.length ≤ sizeLine := by omega
    have hs : gIsa PyData.isStr (.str x) = .ok (.bool true) := gIsa_tame h
    simp only [isVarD]
    have hlen : x.length = x.cps.toList.length := rfl
    have key : ∀ cs, x.cps.toList = cs → (x.length = cs.length) := fun cs e => by rw [hlen, e]
    cases e : x.cps.toList with
    | nil =>
      have h0 : x.length = 0 := by rw [hlen, e]; rfl
      simp [hs, hsl, h0]
      simp [IsVar, e]
    | cons c cs =>
      have a0 : atI x.cps.toList 0 = some c := by rw [e]; exact atI_nn (by omega) (by simp <;> omega)
      cases cs with
      | nil =>
        have h0 : x.length = 1 := by rw [hlen, e]; rfl
        by_cases hc : c ∈ GR
        · simp [hs, hsl, h0, s1, s2, a0, GR_eq, hc]
          exact .inl ⟨c, hc, e⟩
        · simp [hs, hsl, h0, s1, s2, a0, GR_eq, hc]
          simp [IsVar, e, hc]
      | cons d ds =>
        have a1 : atI x.cps.toList 1 = some d := by rw [e]; exact atI_nn (by omega) (by simp <;> omega)
        cases ds with
        | nil =>
          have h0 : x.length = 2 := by rw [hlen, e]; rfl
          by_cases hc : c ∈ GR
          · by_cases hd : d ∈ FG
            · simp [hs, hsl, h0, s1, s2, a0, a1, GR_eq, FG_eq, hc, hd]
              exact .inr ⟨c, d, hc, hd, e⟩
            · simp [hs, hsl, h0, s1, s2, a0, a1, GR_eq, FG_eq, hc, hd]
              simp [IsVar, e, hc, hd]
          · simp [hs, hsl, h0, s1, s2, a0, a1, GR_eq, hc]
            simp [IsVar, e, hc]
        | cons d' ds =>
          have h0 : x.length = ds.length + 3 := by rw [hlen, e]; rfl
          have h2 : ¬ ((x.length : Int) ≤ 2) := by omega
          have hv : ¬ IsVar x := by
            rintro (⟨_, _, h⟩ | ⟨_, _, _, _, h⟩) <;> rw [e] at h <;> simp at h
          simp [hs, hsl, h2, hv]
  | _ => simp [gIsa_tame h, isVarD, PyData.isStr]
end Lw

namespace Lw
open PySem PySem.W L2 Pv
theorem no_yes : ¬(Str.ofString "no" = Str.ofString "yes") := by decide
theorem atI2_0 (a b : PyData) : atI [a, b] 0 = some a := rfl
theorem atI2_1 (a b : PyData) : atI [a, b] 1 = some b := rfl
noncomputable def isTermD (d : PyData) : Bool := isWordD d || isVarD d
structure IsAtom (a : At) : Prop where
  kind : IsWord a.1
  len : a.2.items.length ≤ 3
  terms : ∀ t ∈ a.2.items, IsWord t ∨ IsVar t
noncomputable def isAtomD : PyData → Bool
  | .tuple [h, .tuple ts] => isWordD h && (decide (ts.length ≤ 3) && ts.all isTermD)
  | _ => false
theorem isWordD_iff (d : PyData) : isWordD d = true ↔ ∃ x, d = .str x ∧ IsWord x := by
  cases d <;> simp [isWordD]
theorem isTermD_iff (d : PyData) : isTermD d = true ↔ ∃ x, d = .str x ∧ (IsWord x ∨ IsVar x) := by
  cases d <;> simp [isTermD, isWordD, isVarD]
theorem isAtomD_iff (d : PyData) : isAtomD d = true ↔ ∃ a : At, d = atD a ∧ IsAtom a := by
  constructor
  · intro h
    unfold isAtomD at h
    split at h
    · rename_i k ts
      simp only [Bool.and_eq_true, decide_eq_true_eq, List.all_eq_true] at h
      obtain ⟨h1, h2, h3⟩ := h
      obtain ⟨x, rfl, hx⟩ := (isWordD_iff k).mp h1
      have : ∃ ss : List Str, ts = strsD ss ∧ ∀ t ∈ ss, IsWord t ∨ IsVar t := by
        clear h2
        induction ts with
        | nil => exact ⟨[], rfl, fun _ h => nomatch h⟩
        | cons t ts ih =>
          obtain ⟨ss, rfl, hs⟩ := ih fun y hy => h3 y (List.mem_cons_of_mem _ hy)
          obtain ⟨y, rfl, hy⟩ := (isTermD_iff t).mp (h3 t List.mem_cons_self)
          exact ⟨y :: ss, rfl, fun z hz => (List.mem_cons.mp hz).elim (fun e => e ▸ hy) (hs z)⟩
      obtain ⟨ss, rfl, hs⟩ := this
      exact ⟨(x, ⟨ss⟩), rfl, hx, by simpa using h2, hs⟩
    · cases h
  · rintro ⟨a, rfl, h⟩
    have h1 := h.kind
    have h2 := h.len
    have h3 := h.terms
    simp [isAtomD, isWordD, h1, h2]
    exact fun t ht => by simp [isTermD, isWordD, isVarD]; exact h3 t ht
theorem tame_tup {n : Nat} {xs : List PyData} (h : tame n (.tuple xs)) : xs.length ≤ 1000 ∧ ∀ x ∈ xs, tame n x := by
  cases n with
  | zero => simp [tame] at h
  | succ n => simp only [tame] at h; exact ⟨h.1, fun x hx => tame_up (h.2 x hx)⟩
theorem is_atom_spec {n : Nat} (d : PyData) (h : tame n d) : d_is_atom [d] = .ok (.bool (isAtomD d)) := by
  rw [eq_ok]
  show OkR (endD (m_is_atom [.bo d, .un])) _ _
  rw [okR_end, m_is_atom]
  have hs := gIsa_tame (p := PyData.isTuple) h
  cases d with
  | tuple xs =>
    obtain ⟨hl, hm⟩ := tame_tup h
    match xs, hl, hm with
    | [], _, _ => simp [hs, PyData.isTuple, isAtomD]
    | [a], _, _ => simp [hs, PyData.isTuple, isAtomD]
    | a :: b :: c :: r, _, _ =>
      have : ¬ ((r.length : Int) + 1 + 1 + 1 = 2) := by omega
      simp [hs, PyData.isTuple, isAtomD, this]
    | [a, b], _, hm =>
      have ha := is_word_spec a (hm a (by simp))
      have hb := hm b (by simp)
      have hsb := gIsa_tame (p := PyData.isTuple) hb
      cases hw : isWordD a with
      | false =>
        have : isAtomD (.tuple [a, b]) = false := by cases b <;> simp [isAtomD, hw]
        simp [hs, PyData.isTuple, this, ha, hw, atI2_0]
      | true =>
        cases b with
        | tuple ts =>
          obtain ⟨hl, hm⟩ := tame_tup hb
          by_cases h3 : ts.length ≤ 3
          · have h3' : ¬ (3 : Int) < ts.length := by omega
            simp [hs, PyData.isTuple, ha, hw, atI2_0, atI2_1, hsb, h3']
            rw [show ts = ts.map (fun d => d) by simp]
            refine okR_forall (fun ρ => ∃ j, ρ = [.bo (.tuple [a, .tuple ts]), j]) (fun t => isTermD t = true) (.bool false) ⟨.un, by simp⟩ ?_ ?_ ?_
            · rintro t _ ht ⟨j, rfl⟩
              rw [mtName_e, bind_okE]
              have t1 := is_word_spec t (hm t ht)
              have t2 := is_var_spec t (hm t ht)
              cases e1 : isWordD t <;> cases e2 : isVarD t <;> simp [t1, t2, e1, e2, isTermD]
            · rintro ha _ ⟨j, rfl⟩
              simp [isAtomD, hw, h3]
              exact ha
            · intro ha ρ
              simp [isAtomD, hw, h3]
              simpa using ha
          · have h3' : (3 : Int) < ts.length := by omega
            simp [hs, PyData.isTuple, ha, hw, atI2_0, atI2_1, hsb, h3', isAtomD]
            omega
        | _ => simp [hs, PyData.isTuple, ha, hw, atI2_0, atI2_1, hsb, isAtomD]
  | _ => simp [hs, PyData.isTuple, isAtomD]
noncomputable def isLitD : PyData → Bool
  | .tuple [.str s, a] => (decide (s = "yes") || decide (s = "no")) && isAtomD a
  | _ => false
structure IsLit (l : Li) : Prop where
  sign : l.1 = "yes" ∨ l.1 = "no"
  atom : IsAtom l.2
theorem isLitD_iff (d : PyData) : isLitD d = true ↔ ∃ l : Li, d = liD l ∧ IsLit l := by
  constructor
  · intro h
    unfold isLitD at h
    split at h
    · rename_i s a
      simp only [Bool.and_eq_true, Bool.or_eq_true, decide_eq_true_eq] at h
      obtain ⟨x, rfl, hx⟩ := (isAtomD_iff a).mp h.2
      exact ⟨(s, x), rfl, h.1, hx⟩
    · cases h
  · rintro ⟨l, rfl, h⟩
    have h1 := h.sign
    have h2 := (isAtomD_iff (atD l.2)).mpr ⟨l.2, rfl, h.atom⟩
    simp [isLitD, h1, h2]
theorem is_literal_spec {n : Nat} (d : PyData) (h : tame n d) : d_is_literal [d] = .ok (.bool (isLitD d)) := by
  rw [eq_ok]
  show OkR (endD (m_is_literal [.bo d])) _ _
  rw [okR_end, m_is_literal]
  have hs := gIsa_tame (p := PyData.isTuple) h
  cases d with
  | tuple xs =>
    obtain ⟨hl, hm⟩ := tame_tup h
    match xs, hl, hm with
    | [], _, _ => simp [hs, PyData.isTuple, isLitD]
    | [a], _, _ => simp [hs, PyData.isTuple, isLitD]
    | a :: b :: c :: r, _, _ =>
      have : ¬ ((r.length : Int) + 1 + 1 + 1 = 2) := by omega
      simp [hs, PyData.isTuple, isLitD, this]
    | [a, b], _, hm =>
      have hsa := gIsa_tame (p := PyData.isStr) (hm a (by simp))
      have hb := is_atom_spec b (hm b (by simp))
      cases a with
      | str s =>
        by_cases h1 : s = "yes"
        · subst h1
          simp [hs, PyData.isTuple, PyData.isStr, atI2_0, atI2_1, hsa, hb, isLitD]
        · by_cases h2 : s = "no"
          · subst h2
            simp [hs, PyData.isTuple, PyData.isStr, atI2_0, atI2_1, hsa, hb, isLitD, no_yes]
          · simp [hs, PyData.isTuple, PyData.isStr, atI2_0, atI2_1, hsa, h1, h2, hb, isLitD]
      | _ => simp [hs, PyData.isTuple, PyData.isStr, atI2_0, hsa, isLitD]
  | _ => simp [hs, PyData.isTuple, isLitD]
end Lw

namespace Lw
open PySem PySem.W L2 Pv
abbrev YES : Str := "yes"
abbrev NO : Str := "no"
structure WfRule (r : Ru) : Prop where
  head : IsAtom r.1
  len : r.2.items.length ≤ 4
  lits : ∀ l ∈ r.2.items, IsLit l
def atomsF (r : Ru) : List At := r.1 :: r.2.items.map (·.2)
def termsF (r : Ru) : List Str := (atomsF r).flatMap (·.2.items)
open Classical in
noncomputable def addV (acc : List Str) (t : Str) : List Str := if IsVar t ∧ t ∉ acc then acc ++ [t] else acc
noncomputable def varsF (r : Ru) : List Str := (termsF r).foldl addV []
theorem mem_addV (acc : List Str) (ts : List Str) (v : Str) : v ∈ ts.foldl addV acc ↔ v ∈ acc ∨ (IsVar v ∧ v ∈ ts) := by
  induction ts generalizing acc with
  | nil => simp
  | cons t ts ih =>
    rw [List.foldl_cons, ih]
    unfold addV
    by_cases h : IsVar t ∧ t ∉ acc
    · rw [if_pos h]
      simp only [List.mem_append, List.mem_cons, List.not_mem_nil, or_false]
      constructor
      · rintro ((h1 | rfl) | ⟨a, b⟩)
        · exact .inl h1
        · exact .inr ⟨h.1, .inl rfl⟩
        · exact .inr ⟨a, .inr b⟩
      · rintro (h1 | ⟨a, rfl | b⟩)
        · exact .inl (.inl h1)
        · exact .inl (.inr rfl)
        · exact .inr ⟨a, b⟩
    · rw [if_neg h]
      simp only [List.mem_cons]
      constructor
      · rintro (h1 | ⟨a, b⟩)
        · exact .inl h1
        · exact .inr ⟨a, .inr b⟩
      · rintro (h1 | ⟨a, rfl | b⟩)
        · exact .inl h1
        · refine .inl (Classical.not_not.mp fun z => h ⟨a, z⟩)
        · exact .inr ⟨a, b⟩
theorem mem_varsF (r : Ru) (v : Str) : v ∈ varsF r ↔ IsVar v ∧ v ∈ termsF r := by
  unfold varsF
  rw [mem_addV]
  simp
theorem atoms_of_spec (r : Ru) (h : r.2.items.length ≤ 100) : d_atoms_of [ruD r] = .ok (.list ((atomsF r).map atD)) := by
  rw [eq_ok]
  show OkR (endD (m_atoms_of [.bo (ruD r), .un])) _ _
  rw [okR_end, m_atoms_of]
  have sl := sizeLine_ge
  simp [atI2_0, atI2_1]
  refine okR_comp (fun l => atD l.2) (fun l hl => by simp [atI2_1]) ?_
  simp [atomsF]
  omega
theorem isVarD_str (x : Str) : isVarD (.str x) = true ↔ IsVar x := by simp [isVarD]
def vInv (r : Ru) (n : Nat) (rest : List Str) (ρ : Pv.Env) : Prop := ∃ (vs : List Str) (j2 j3 : Sl), ρ = [.bo (ruD r), .ow (.list (strsD vs)), j2, j3] ∧ vs.length + rest.length ≤ n ∧ rest.foldl addV vs = varsF r
theorem variables_of_spec (r : Ru) (h : WfRule r) : d_variables_of [ruD r] = .ok (.list (strsD (varsF r))) := by
  rw [eq_ok]
  show OkR (endD (m_variables_of [.bo (ruD r), .un, .un, .un])) _ _
  rw [okR_end, m_variables_of]
  have sl := sizeLine_ge
  have hA : ∀ a ∈ atomsF r, a.2.items.length ≤ 3 ∧ ∀ t ∈ a.2.items, IsWord t ∨ IsVar t := fun a ha => by
    rcases List.mem_cons.mp ha with rfl | ha
    · exact ⟨h.head.len, h.head.terms⟩
    · obtain ⟨l, hl, rfl⟩ := List.mem_map.mp ha
      exact ⟨(h.lits l hl).atom.len, (h.lits l hl).atom.terms⟩
  have hflat : ∀ as : List At, (∀ a ∈ as, a.2.items.length ≤ 3) → (as.flatMap (·.2.items)).length ≤ 3 * as.length := fun as => by
    induction as with
    | nil => intro _; exact Nat.le_refl _
    | cons a as ih =>
      intro h
      have := h a List.mem_cons_self
      have := ih fun b hb => h b (List.mem_cons_of_mem _ hb)
      rw [List.flatMap_cons, List.length_append, List.length_cons]
      omega
  have hn : (termsF r).length ≤ 15 := by
    have := hflat (atomsF r) fun a ha => (hA a ha).1
    have e : (atomsF r).length = r.2.items.length + 1 := by simp [atomsF]
    have := h.len
    unfold termsF
    omega
  simp [atoms_of_spec r (by have := h.len; omega)]
  refine okR_forK (fun rest ρ => vInv r 15 (rest.flatMap (·.2.items)) ρ) ⟨[], .un, .un, rfl, by simpa [termsF, List.length_flatMap] using hn, rfl⟩ ?_ ?_
  · rintro a rest _ ha ⟨vs, j2, j3, rfl, hl, hv⟩
    rw [mtName_e, bind_okE]
    simp [atI2_1]
    refine okR_forE (fun rest2 ρ => vInv r 15 (rest2 ++ rest.flatMap (·.2.items)) ρ) ⟨vs, _, j3, rfl, by simpa using hl, by simpa using hv⟩ ?_ ?_
    · rintro t rest2 _ ht ⟨vs, j2, j3, rfl, hl, hv⟩
      rw [mtName_e, bind_okE]
      have tl : t.length ≤ 1000 := by
        rcases (hA a ha).2 t ht with h | h
        · have := h.hi; omega
        · rcases h with ⟨_, _, e⟩ | ⟨_, _, _, _, e⟩ <;> (rw [len_eq, e]; simp)
      have t2 := is_var_spec (n := 0) (.str t) (by simpa [tame] using tl)
      rw [List.cons_append, List.foldl_cons] at hv
      rw [List.cons_append, List.length_cons] at hl
      by_cases hc : IsVar t
      · by_cases hd : t ∈ vs
        · have e : addV vs t = vs := if_neg fun z => z.2 hd
          rw [e] at hv
          simp [t2, isVarD, hc, gIn_Ls, hd]
          exact ⟨vs, _, _, rfl, by omega, hv⟩
        · have e : addV vs t = vs ++ [t] := if_pos ⟨hc, hd⟩
          rw [e] at hv
          simp [t2, isVarD, hc, gIn_Ls, hd]
          exact ⟨by omega, vs ++ [t], _, _, by simp [strsD]; exact ⟨rfl, rfl⟩, by rw [List.length_append, List.length_singleton]; omega, hv⟩
      · have e : addV vs t = vs := if_neg fun z => hc z.1
        rw [e] at hv
        simp [t2, isVarD, hc]
        exact ⟨vs, _, _, rfl, by omega, hv⟩
    · exact fun _ h => by simpa using h
  · rintro _ ⟨vs, j2, j3, rfl, hl, hv⟩
    simp
    exact congrArg strsD (by simpa using hv)
open Classical in
noncomputable def yesT (ls : List Li) : List Str := (ls.filter (fun l => decide (l.1 = YES))).flatMap (·.2.2.items)
theorem mem_yesT (ls : List Li) (v : Str) : v ∈ yesT ls ↔ ∃ l ∈ ls, l.1 = YES ∧ v ∈ l.2.2.items := by
  unfold yesT
  simp only [List.mem_flatMap, List.mem_filter, decide_eq_true_eq]
  exact ⟨fun ⟨l, ⟨a, b⟩, c⟩ => ⟨l, a, b, c⟩, fun ⟨l, a, b, c⟩ => ⟨l, ⟨a, b⟩, c⟩⟩
def SafeR (r : Ru) : Prop := ∀ v ∈ varsF r, v ∈ yesT r.2.items
structure IsRule (r : Ru) : Prop extends WfRule r where
  safe : SafeR r
theorem boolsOf_map : ∀ bs : List Bool, boolsOf (bs.map .bool) = some bs
  | [] => rfl
  | b :: bs => by rw [List.map_cons, boolsOf, boolsOf_map bs]; rfl
theorem gAll_map (bs : List Bool) : gAll (.list (bs.map .bool)) = .ok (.bool (bs.all id)) := by
  unfold gAll
  simp only [boolsOf_map]
theorem yesT_snoc (ls : List Li) (l : Li) : yesT (ls ++ [l]) = yesT ls ++ (if l.1 = YES then l.2.2.items else []) := by
  unfold yesT
  rw [List.filter_append, List.flatMap_append]
  by_cases h : l.1 = YES
  · rw [if_pos h, List.filter_cons_of_pos (by simpa using h)]; simp
  · rw [if_neg h, List.filter_cons_of_neg (by simpa using h)]; simp
theorem yesT_len (ls : List Li) (h : ∀ l ∈ ls, l.2.2.items.length ≤ 3) : (yesT ls).length ≤ 3 * ls.length := by
  induction ls with
  | nil => exact Nat.le_refl _
  | cons l ls ih =>
    have h1 := h l List.mem_cons_self
    have h2 := ih fun b hb => h b (List.mem_cons_of_mem _ hb)
    unfold yesT at h2 ⊢
    by_cases e : l.1 = YES
    · rw [List.filter_cons_of_pos (by simpa using e), List.flatMap_cons, List.length_append, List.length_cons]; omega
    · rw [List.filter_cons_of_neg (by simpa using e), List.length_cons]; omega
open Classical in
noncomputable def isRuleD (d : PyData) : Bool := decide (∃ r : Ru, d = ruD r ∧ IsRule r)
theorem lits_of : ∀ {ds : List PyData}, (∀ d ∈ ds, isLitD d = true) → ∃ ls : List Li, ds = ls.map liD ∧ ∀ l ∈ ls, IsLit l
  | [], _ => ⟨[], rfl, fun _ h => nomatch h⟩
  | d :: ds, h => by
    obtain ⟨ls, rfl, hl⟩ := lits_of fun y hy => h y (List.mem_cons_of_mem _ hy)
    obtain ⟨l, rfl, hi⟩ := (isLitD_iff d).mp (h d List.mem_cons_self)
    exact ⟨l :: ls, rfl, fun z hz => (List.mem_cons.mp hz).elim (fun e => e ▸ hi) (hl z)⟩
end Lw

namespace Lw
open PySem PySem.W L2 Pv
theorem isRuleD_iff (d : PyData) : isRuleD d = true ↔ ∃ r : Ru, d = ruD r ∧ IsRule r := by
  classical
  unfold isRuleD
  exact decide_eq_true_iff
theorem not_rule {d : PyData} (h : ∀ r : Ru, d = ruD r → ¬IsRule r) : isRuleD d = false := by
  classical
  unfold isRuleD
  exact decide_eq_false fun ⟨r, e, hr⟩ => h r e hr
def lInv (d : PyData) (ds : List PyData) (rest : List PyData) (ρ : Pv.Env) : Prop := ∃ (ls : List Li) (j : Sl), ds = ls.map liD ++ rest ∧ (∀ l ∈ ls, IsLit l) ∧ ρ = [.bo d, .fr (.list (strsD (yesT ls))), j]
theorem liD_inj : ∀ {a b : List Li}, a.map liD = b.map liD → a = b := fun {a b} h => by
  have : Datum.toD (Tup.mk a) = Datum.toD (Tup.mk b) := by show PyData.tuple (a.map liD) = .tuple (b.map liD); rw [h]
  have e := Datum.eqv (Tup.mk a) (Tup.mk b)
  rw [this, Datum.eqv, decide_eq_true rfl] at e
  exact Tup.mk.inj (of_decide_eq_true e.symm)
theorem is_rule_spec {n : Nat} (d : PyData) (h : tame n d) : d_is_rule [d] = .ok (.bool (isRuleD d)) := by
  rw [eq_ok]
  show OkR (endD (m_is_rule [.bo d, .un, .un])) _ _
  rw [okR_end, m_is_rule]
  have sl := sizeLine_ge
  have hs := gIsa_tame (p := PyData.isTuple) h
  cases d with
  | tuple xs =>
    obtain ⟨hl, hm⟩ := tame_tup h
    match xs, hl, hm with
    | [], _, _ => simp [hs, PyData.isTuple]; exact (not_rule fun r e => by cases e)
    | [a], _, _ => simp [hs, PyData.isTuple]; exact (not_rule fun r e => by cases e)
    | a :: b :: c :: r, _, _ =>
      have : ¬ ((r.length : Int) + 1 + 1 + 1 = 2) := by omega
      simp [hs, PyData.isTuple, this]
      exact (not_rule fun r e => by cases e)
    | [a, b], _, hm =>
      have ha := is_atom_spec a (hm a (by simp))
      have hb := hm b (by simp)
      have hsb := gIsa_tame (p := PyData.isTuple) hb
      cases hw : isAtomD a with
      | false =>
        simp [hs, PyData.isTuple, ha, hw, atI2_0]
        refine not_rule fun r e hr => ?_
        injection e with e
        injection e with e1 e2
        rw [e1, (isAtomD_iff _).mpr ⟨r.1, rfl, hr.head⟩] at hw
        cases hw
      | true =>
        cases b with
        | tuple ts =>
          obtain ⟨hl, hm⟩ := tame_tup hb
          by_cases h4 : ts.length ≤ 4
          · have h4' : ¬ (4 : Int) < ts.length := by omega
            simp [hs, PyData.isTuple, ha, hw, atI2_0, atI2_1, hsb, h4']
            rw [okR_bind]
            refine okR_forD (fun rest ρ => lInv (.tuple [a, .tuple ts]) ts rest ρ) ⟨[], _, rfl, fun _ h => (nomatch h), rfl⟩ ?_ ?_
            · rintro x rest _ ⟨ls, j, e, hls, rfl⟩
              rw [mtName_e, bind_okE]
              have hx := is_literal_spec x (hm x (by rw [e]; simp))
              cases hlx : isLitD x with
              | false =>
                simp [hx, hlx]
                refine not_rule fun r e' hr => ?_
                injection e' with e'
                injection e' with e1 e2
                injection e2 with e2
                injection e2 with e2
                have : x ∈ r.2.items.map liD := by rw [← e2, e]; simp
                obtain ⟨l, hl, rfl⟩ := List.mem_map.mp this
                rw [(isLitD_iff _).mpr ⟨l, rfl, hr.lits l hl⟩] at hlx
                cases hlx
              | true =>
                obtain ⟨l, rfl, hl⟩ := (isLitD_iff x).mp hlx
                have hls' : ∀ l' ∈ ls ++ [l], IsLit l' := fun l' h => (List.mem_append.mp h).elim (hls l') fun h => List.mem_singleton.mp h ▸ hl
                have e' : ts = (ls ++ [l]).map liD ++ rest := by rw [e]; simp
                by_cases hy : l.1 = YES
                · simp [hx, hlx, atI2_0, atI2_1, hy]
                  have y1 := yesT_len ls fun l hl => (hls l hl).atom.len
                  have y2 : ls.length ≤ 4 := by rw [e] at h4; simp at h4; omega
                  have y3 := hl.atom.len
                  exact ⟨by omega, ls ++ [l], _, e', hls', by rw [yesT_snoc, if_pos hy]; simp [strsD]; rfl⟩
                · simp [hx, hlx, atI2_0, hy]
                  exact ⟨ls ++ [l], _, e', hls', by rw [yesT_snoc, if_neg hy]; simp [strsD]; rfl⟩
            · rintro _ ⟨ls, j, e, hls, rfl⟩
              rw [List.append_nil] at e
              subst e
              obtain ⟨a, rfl, hatom⟩ := (isAtomD_iff a).mp hw
              have hwf : WfRule (a, Tup.mk ls) := ⟨hatom, by simpa using h4, hls⟩
              have hv := variables_of_spec (a, Tup.mk ls) hwf
              simp [hv]
              refine okR_comp (fun v => .bool (decide (v ∈ yesT ls))) (fun v hvv => by simp [gIn_Ls]) ?_
              have : ((varsF (a, Tup.mk ls)).map fun v => PyData.bool (decide (v ∈ yesT ls))) = ((varsF (a, Tup.mk ls)).map fun v => decide (v ∈ yesT ls)).map .bool := by rw [List.map_map]; rfl
              rw [this]
              simp only [gAll_map, bind_okE, okR_okE]
              congr 1
              rw [Bool.eq_iff_iff, isRuleD_iff, List.all_eq_true]
              constructor
              · intro hh
                refine ⟨(a, Tup.mk ls), rfl, hwf, fun v hvv => ?_⟩
                have := hh _ (List.mem_map.mpr ⟨v, hvv, rfl⟩)
                simpa using this
              · rintro ⟨r, e, hr⟩ b hb
                obtain ⟨v, hvv, rfl⟩ := List.mem_map.mp hb
                have er : r = (a, Tup.mk ls) := by
                  have : Datum.toD r = Datum.toD ((a, Tup.mk ls) : Ru) := e.symm
                  have e := Datum.eqv r (a, Tup.mk ls)
                  rw [this, Datum.eqv, decide_eq_true rfl] at e
                  exact of_decide_eq_true e.symm
                subst er
                have := hr.safe v hvv
                simpa using this
          · have h4' : (4 : Int) < ts.length := by omega
            simp [hs, PyData.isTuple, ha, hw, atI2_0, atI2_1, hsb, h4']
            refine not_rule fun r e hr => ?_
            injection e with e
            injection e with e1 e2
            injection e2 with e2
            injection e2 with e2
            have := hr.len
            rw [e2] at h4
            simp at h4
            omega
        | _ => simp [hs, PyData.isTuple, ha, hw, atI2_0, atI2_1, hsb]; exact (not_rule fun r e => by cases e)
  | _ => simp [hs, PyData.isTuple]; exact (not_rule fun r e => by cases e)
end Lw

namespace Lw
open PySem PySem.W L2 Pv
theorem okR_pick {β : Type} {xs : List PyData} {i : Int} {K : PyData → R β} {k : β → Prop} {w : Xn → Prop} (h0 : 0 ≤ i) (h1 : i < xs.length) (h : ∀ x ∈ xs, OkR (K x) k w) : OkR ((match atI xs i with | some x => R.ok x | none => R.st).bind K) k w := by
  obtain ⟨x, hx, e⟩ := atI_mem h0 h1
  rw [e]
  exact h x hx
def wordB (x : Str) : Bool := decide (1 ≤ x.length) && (decide (x.length ≤ 8) && (decide (x ∉ keptW) && x.cps.toList.all fun c => decide (c ∈ SM)))
theorem wordB_iff (x : Str) : wordB x = true ↔ IsWord x := by
  simp only [wordB, Bool.and_eq_true, decide_eq_true_eq, List.all_eq_true]
  exact ⟨fun ⟨a, b, c, d⟩ => ⟨a, b, c, d⟩, fun ⟨a, b, c, d⟩ => ⟨a, b, c, d⟩⟩
def varB (x : Str) : Bool := match x.cps.toList with
  | [c] => decide (c ∈ GR)
  | [c, d] => decide (c ∈ GR) && decide (d ∈ FG)
  | _ => false
theorem varB_iff (x : Str) : varB x = true ↔ IsVar x := by
  unfold varB IsVar
  split
  · rename_i c e; simp [e]
  · rename_i c d e; simp [e]
  · rename_i h1 h2
    constructor
    · intro h; cases h
    · rintro (⟨c, _, e⟩ | ⟨c, d, _, _, e⟩)
      · exact (h1 c e).elim
      · exact (h2 c d e).elim
theorem word_tame {x : Str} (h : IsWord x) : x.length ≤ 1000 := by have := h.hi; omega
theorem var_tame {x : Str} (h : IsVar x) : x.length ≤ 1000 := by
  rcases h with ⟨_, _, e⟩ | ⟨_, _, _, _, e⟩ <;> (rw [len_eq, e]; simp)
theorem term_tame {x : Str} (h : IsWord x ∨ IsVar x) : x.length ≤ 1000 := h.elim word_tame var_tame
theorem tame_str {n : Nat} {x : Str} (h : x.length ≤ 1000) : tame n (.str x) := by cases n <;> simpa [tame] using h
theorem tame_T {n : Nat} {xs : List PyData} : tame (n + 1) (.tuple xs) ↔ xs.length ≤ 1000 ∧ ∀ x ∈ xs, tame n x := by simp only [tame]
theorem tame_L {n : Nat} {xs : List PyData} : tame (n + 1) (.list xs) ↔ xs.length ≤ 1000 ∧ ∀ x ∈ xs, tame n x := by simp only [tame]
theorem tame_N {n : Nat} : tame n .none := by cases n <;> trivial
theorem tame_B {n : Nat} {b : Bool} : tame n (.bool b) := by cases n <;> trivial
theorem tame_I {n : Nat} {b : Int} : tame n (.int b) := by cases n <;> trivial
theorem terms_tame {a : At} (h : IsAtom a) : ∀ x ∈ strsD a.2.items, tame 0 x := fun x hx => by
  obtain ⟨t, ht, rfl⟩ := List.mem_map.mp hx
  exact tame_str (term_tame (h.terms t ht))
theorem atom_tame {a : At} (h : IsAtom a) : tame 2 (atD a) := by
  have hl := h.len
  refine tame_T.mpr ⟨by simp, fun x hx => ?_⟩
  simp at hx
  rcases hx with rfl | rfl
  · exact tame_str (word_tame h.kind)
  · exact tame_T.mpr ⟨by simp; omega, terms_tame h⟩
theorem tame_all {n : Nat} {xs : List PyData} (h : ∀ x ∈ xs, tame n x) (hl : xs.length ≤ 1000) : tame (n + 1) (.tuple xs) := tame_T.mpr ⟨hl, h⟩
theorem tame_1 {n : Nat} {a : PyData} (ha : tame n a) : tame (n + 1) (.tuple [a]) := tame_T.mpr ⟨by simp, fun x hx => by rw [List.mem_singleton.mp hx]; exact ha⟩
theorem tame_2 {n : Nat} {a b : PyData} (ha : tame n a) (hb : tame n b) : tame (n + 1) (.tuple [a, b]) := tame_T.mpr ⟨by simp, fun x hx => by
  simp only [List.mem_cons, List.not_mem_nil, or_false] at hx
  rcases hx with rfl | rfl
  · exact ha
  · exact hb⟩
theorem tame_3 {n : Nat} {a b c : PyData} (ha : tame n a) (hb : tame n b) (hc : tame n c) : tame (n + 1) (.tuple [a, b, c]) := tame_T.mpr ⟨by simp, fun x hx => by
  simp only [List.mem_cons, List.not_mem_nil, or_false] at hx
  rcases hx with rfl | rfl | rfl
  · exact ha
  · exact hb
  · exact hc⟩
theorem tame_L2 {n : Nat} {a b : PyData} (ha : tame n a) (hb : tame n b) : tame (n + 1) (.list [a, b]) := tame_L.mpr ⟨by simp, fun x hx => by
  simp only [List.mem_cons, List.not_mem_nil, or_false] at hx
  rcases hx with rfl | rfl
  · exact ha
  · exact hb⟩
theorem tame_0 {n : Nat} : tame (n + 1) (.tuple []) := tame_T.mpr ⟨by simp, fun _ h => nomatch h⟩
end Lw

namespace Lw
open PySem PySem.W L2 Pv
theorem word_not_var {x : Str} (h : IsWord x) : ¬IsVar x := by
  have hs := h.sm
  rintro (⟨c, hc, e⟩ | ⟨c, d, hc, hd, e⟩)
  · have := hs c (by rw [e]; simp)
    simp [SM, GR] at this hc; omega
  · have := hs c (by rw [e]; simp)
    simp [SM, GR] at this hc; omega
theorem XYZ_var {x : Str} (h : x ∈ XYZ) : IsVar x := by
  have : ∀ x ∈ XYZ, varB x = true := by decide
  exact (varB_iff x).mp (this x h)
theorem safe_term {ns : List Int} {ls : List Li} {t : Str} (h : SafeB ns ls t) : IsWord t ∨ IsVar t := h.elim (fun h => .inl (words_word ns t h)) fun h => .inr (XYZ_var h.1)
theorem VT_or {ns : List Int} {t : Str} (h : t ∈ VT ns) : t ∈ wordsF ns ∨ t ∈ XYZ := by
  simp only [VT, List.mem_cons, List.not_mem_nil, or_false] at h
  have h0 := w0_mem ns
  have h1 := w1_mem ns
  rcases h with rfl | rfl | rfl | rfl | rfl | rfl | rfl
  · exact .inr (by simp)
  · exact .inr (by simp)
  · exact .inr (by simp)
  · exact .inr (by simp)
  · exact .inr (by simp)
  · exact .inl h0
  · exact .inl h1
theorem atomOf_atom {ns : List Int} {k : Int} {P : Str → Prop} {a : At} (h : AtomOf ns k P a) (h0 : 0 ≤ k) (h6 : k < 6) (hP : ∀ t, P t → IsWord t ∨ IsVar t) : IsAtom a where
  kind := by rw [h.kind]; exact kind_word ns k h0 h6
  len := by have := h.size; have := size_lo ns k; omega
  terms := fun t ht => hP t (h.terms t ht)
theorem VT_term {ns : List Int} {t : Str} (h : t ∈ VT ns) : IsWord t ∨ IsVar t := (VT_or h).elim (fun h => .inl (words_word ns t h)) fun h => .inr (XYZ_var h)
theorem drawn_rule {ns : List Int} {pu : Bool} {r : Ru} (h : DrawnRule ns pu r) : IsRule r := by
  obtain ⟨hd, h0, h6, hH, hL⟩ := h.ex
  refine ⟨⟨atomOf_atom hH h0 h6 fun t => safe_term, h.len, fun l hl => ?_⟩, fun v hv => ?_⟩
  · rcases hL l hl with y | z
    · obtain ⟨k, a, b, _, c⟩ := y.ex
      exact ⟨.inl y.yes, atomOf_atom c a b fun t => VT_term⟩
    · obtain ⟨k, a, b, c⟩ := z.ex
      exact ⟨.inr z.no, atomOf_atom c a (by omega) fun t => safe_term⟩
  · obtain ⟨hv, hm⟩ := (mem_varsF r v).mp hv
    have sf : ∀ {t}, SafeB ns r.2.items t → IsVar t → t ∈ yesT r.2.items := fun {t} hs ht => by
      rcases hs with hs | ⟨_, hs⟩
      · exact (word_not_var (words_word ns t hs) ht).elim
      · exact (mem_yesT _ _).mpr hs
    obtain ⟨a, ha, hva⟩ := List.mem_flatMap.mp hm
    rcases List.mem_cons.mp ha with rfl | ha
    · exact sf (hH.terms v hva) hv
    · obtain ⟨l, hl, rfl⟩ := List.mem_map.mp ha
      rcases hL l hl with y | z
      · exact (mem_yesT _ _).mpr ⟨l, hl, y.yes, hva⟩
      · obtain ⟨k, _, _, c⟩ := z.ex
        exact sf (c.terms v hva) hv
/-- Q and what begins with it is no term of a drawn rule -/
theorem yes_XYZ {ns : List Int} {pu : Bool} {r : Ru} (h : DrawnRule ns pu r) {v : Str} (hv : v ∈ yesT r.2.items) (hV : IsVar v) : v ∈ XYZ := by
  obtain ⟨hd, h0, h6, hH, hL⟩ := h.ex
  obtain ⟨l, hl, hy, hm⟩ := (mem_yesT _ _).mp hv
  rcases hL l hl with y | z
  · obtain ⟨k, _, _, _, c⟩ := y.ex
    rcases VT_or (c.terms v hm) with h | h
    · exact (word_not_var (words_word ns v h) hV).elim
    · exact h
  · rw [z.no] at hy
    exact (no_yes hy).elim
theorem lit_tame {l : Li} (h : IsLit l) : tame 3 (liD l) := tame_2 (tame_str (by rcases h.sign with e | e <;> rw [e] <;> decide)) (atom_tame h.atom)
theorem lits_tame {ls : List Li} (h : ∀ l ∈ ls, IsLit l) : ∀ x ∈ ls.map liD, tame 3 x := fun x hx => by
  obtain ⟨l, hl, rfl⟩ := List.mem_map.mp hx
  exact lit_tame (h l hl)
theorem rule_tame {r : Ru} (h : WfRule r) : tame 5 (ruD r) := by
  have hl := h.len
  exact tame_2 (tame_le (atom_tame h.head) (by decide)) (tame_all (lits_tame h.lits) (by simp; omega))
theorem rule_parts {a : PyData} {ts : List PyData} (h : isRuleD (.tuple [a, .tuple ts]) = true) : isAtomD a = true ∧ ts.length ≤ 4 ∧ ∀ t ∈ ts, isLitD t = true := by
  obtain ⟨r, e, hr⟩ := (isRuleD_iff _).mp h
  injection e with e
  injection e with e1 e2
  injection e2 with e2
  injection e2 with e2
  subst e1 e2
  refine ⟨(isAtomD_iff _).mpr ⟨_, rfl, hr.head⟩, by have := hr.len; simpa using this, fun t ht => ?_⟩
  obtain ⟨l, hl, rfl⟩ := List.mem_map.mp ht
  exact (isLitD_iff _).mpr ⟨l, rfl, hr.lits l hl⟩
theorem rule_typed {r : Ru} : isRuleD (ruD r) = true ↔ IsRule r := by
  rw [isRuleD_iff]
  constructor
  · rintro ⟨r', e, h⟩
    have : Datum.toD r = Datum.toD r' := e
    have e := Datum.eqv r r'
    rw [this, Datum.eqv, decide_eq_true rfl] at e
    have := of_decide_eq_true e.symm
    subst this
    exact h
  · exact fun h => ⟨r, rfl, h⟩
end Lw

namespace Lw
open PySem PySem.W L2 Pv
theorem cut_ints (ns : List Int) (lo hi : Option Int) : ∃ zs : List Int, cutD (ns.map .int) lo hi = zs.map .int := by
  unfold cutD
  rw [← List.map_drop, ← List.map_take]
  exact ⟨_, rfl⟩
theorem cut_ints_len (ns zs : List Int) (hi : Nat) (h4 : 4 ≤ hi) (e : cutD (ns.map .int) (some 4) (some hi) = zs.map .int) : zs.length ≤ hi - 4 := by
  have := congrArg List.length e
  rw [List.length_map] at this
  rw [← this]
  unfold cutD
  rw [List.length_take]
  have h1 : HT.sIx (ns.map PyData.int).length (ns.map PyData.int).length (some (hi : Int)) ≤ hi := by
    rw [HT.sIx_nat]; exact Nat.min_le_left _ _
  have h2 : HT.sIx (ns.map PyData.int).length 0 (some ((4 : Nat) : Int)) = min 4 (ns.map PyData.int).length := HT.sIx_nat _ _ _
  have h3 : (some (4 : Int)) = some ((4 : Nat) : Int) := rfl
  rw [h3, h2, List.length_drop]
  have : HT.sIx (ns.map PyData.int).length (ns.map PyData.int).length (some (hi : Int)) = min hi (ns.map PyData.int).length := HT.sIx_nat _ _ _
  rw [this]
  omega
theorem cell_2 (ns : List Int) : d_law_cell [scr ns, .int 2] = .ok (.int (cellF ns 2)) := cell_spec ns 2
def freeF (ns : List Int) : Bool := decide (cellF ns 2 % 3 = 0)
def rulesEnd (ns : List Int) (d : PyData) : Prop := ∃ rs : List Ru, d = .tuple (rs.map ruD) ∧ rs.length ≤ 9 ∧ ∀ r ∈ rs, DrawnRule ns (freeF ns) r
theorem rules_spec (ns : List Int) : ∃ rs : List Ru, d_law_rules [scr ns] = .ok (.tuple (rs.map ruD)) ∧ rs.length ≤ 9 ∧ ∀ r ∈ rs, DrawnRule ns (freeF ns) r := by
  have key : OkR (d_law_rules [scr ns]) (rulesEnd ns) (fun _ => False) := by
    show OkR (endD (m_law_rules [.bo (scr ns), .un, .un, .un])) _ _
    rw [okR_end, m_law_rules]
    have hm := mix_spec (cellF ns 3) 9479 7 (by omega) (by omega)
    refine okR_seq (fun ρ => ρ = [.bo (scr ns), .fr (.int 5), .un, .un]) (by simp) ?_
    rintro _ rfl
    refine okR_seq (fun ρ => ∃ n : Nat, n ≤ 9 ∧ ρ = [.bo (scr ns), .fr (.int n), .un, .un]) ?_ ?_
    · by_cases h1 : (63 : Int) < ns.length
      · simp [h1]; exact ⟨9, by decide, rfl⟩
      · by_cases h2 : mixF (cellF ns 3) 9479 7 = 3
        · simp [h1, cell_3, hm, h2]; exact ⟨9, by decide, rfl⟩
        · simp [h1, cell_3, hm, h2]; exact ⟨5, by decide, rfl⟩
    rintro _ ⟨n, hn, rfl⟩
    refine okR_seq (fun ρ => ρ = [.bo (scr ns), .fr (.int n), .fr (.bool (freeF ns)), .un]) (by simp [cell_2, freeF]) ?_
    rintro _ rfl
    obtain ⟨zs, hz⟩ := cut_ints ns (some 4) (some (4 + n))
    have hl : zs.length ≤ 9 := by
      have := cut_ints_len ns zs (4 + n) (by omega) (by rw [← hz]; rfl)
      omega
    simp [hz]
    refine okR_compE ruD (fun _ r => DrawnRule ns (freeF ns) r) (fun c hc => ?_) fun rs h1 h2 => ?_
    · obtain ⟨r, e, hr⟩ := rule_spec ns c (freeF ns)
      exact okR_of (a := ruD r) (by simp [e]) ⟨r, rfl, hr⟩
    · simp
      exact ⟨rs, rfl, by omega, fun r hr => by obtain ⟨_, _, h⟩ := h2 r hr; exact h⟩
  obtain ⟨d, e, rs, rfl, h⟩ := okR_ex key
  exact ⟨rs, e, h⟩
end Lw

namespace Lw
open PySem PySem.W L2 Pv
/-! ### renaming -/
def mapA (f : Str → Str) (a : At) : At := (a.1, ⟨a.2.items.map f⟩)
def mapR (f : Str → Str) (r : Ru) : Ru := (mapA f r.1, ⟨r.2.items.map fun l => (l.1, mapA f l.2)⟩)
theorem terms_mapR (f : Str → Str) (r : Ru) : termsF (mapR f r) = (termsF r).map f := by
  have key : ∀ ls : List Li, (ls.map fun l : Li => (mapA f l.2)).flatMap (fun a : At => a.2.items) = ((ls.map fun l : Li => l.2).flatMap fun a : At => a.2.items).map f := by
    intro ls
    induction ls with
    | nil => rfl
    | cons l ls ih => rw [List.map_cons, List.map_cons, List.flatMap_cons, List.flatMap_cons, List.map_append, ih]; rfl
  unfold termsF atomsF
  rw [List.flatMap_cons, List.flatMap_cons, List.map_append]
  show _ ++ ((r.2.items.map fun l : Li => (l.1, mapA f l.2)).map fun l : Li => l.2).flatMap (fun a : At => a.2.items) = _
  rw [List.map_map, show (r.2.items.map ((fun l : Li => l.2) ∘ fun l : Li => (l.1, mapA f l.2))) = r.2.items.map fun l : Li => mapA f l.2 from rfl, key]
  rfl
theorem mapR_comp (f g : Str → Str) (r : Ru) : mapR g (mapR f r) = mapR (fun t => g (f t)) r := by
  unfold mapR mapA
  simp only [List.map_map, Function.comp_def]
theorem mapA_congr {f g : Str → Str} {a : At} (h : ∀ t ∈ a.2.items, f t = g t) : mapA f a = mapA g a := by
  unfold mapA
  rw [List.map_congr_left h]
theorem mapR_congr {f g : Str → Str} {r : Ru} (h : ∀ t ∈ termsF r, f t = g t) : mapR f r = mapR g r := by
  have hA : ∀ a ∈ atomsF r, mapA f a = mapA g a := fun a ha => mapA_congr fun t ht => h t (List.mem_flatMap.mpr ⟨a, ha, ht⟩)
  unfold mapR
  rw [hA r.1 List.mem_cons_self]
  congr 2
  refine List.map_congr_left fun l hl => ?_
  rw [hA l.2 (List.mem_cons_of_mem _ (List.mem_map.mpr ⟨l, hl, rfl⟩))]
/-- other names for variables -/
structure Ren (f : Str → Str) (S : List Str) : Prop where
  var : ∀ t ∈ S, IsVar t → IsVar (f t)
  word : ∀ t ∈ S, ¬IsVar t → f t = t
  inj : ∀ t ∈ S, ∀ u ∈ S, IsVar t → IsVar u → f t = f u → t = u
theorem Ren.iff {f : Str → Str} {S : List Str} (h : Ren f S) {t : Str} (ht : t ∈ S) : IsVar (f t) ↔ IsVar t := by
  constructor
  · intro hv
    refine Classical.not_not.mp fun z => z ?_
    rw [h.word t ht z] at hv
    exact hv
  · exact h.var t ht
theorem addV_map {f : Str → Str} {S : List Str} (h : Ren f S) : ∀ {ts acc : List Str}, (∀ t ∈ ts, t ∈ S) → (∀ t ∈ acc, t ∈ S ∧ IsVar t) → (ts.map f).foldl addV (acc.map f) = (ts.foldl addV acc).map f
  | [], acc, _, _ => rfl
  | t :: ts, acc, hs, ha => by
    have hT := hs t List.mem_cons_self
    have hs' : ∀ u ∈ ts, u ∈ S := fun u hu => hs u (List.mem_cons_of_mem _ hu)
    rw [List.map_cons, List.foldl_cons, List.foldl_cons]
    have hmem : IsVar t → (f t ∈ acc.map f ↔ t ∈ acc) := fun hv => by
      rw [List.mem_map]
      constructor
      · rintro ⟨u, hu, e⟩
        rw [← h.inj u (ha u hu).1 t hT (ha u hu).2 hv e]; exact hu
      · exact fun hu => ⟨t, hu, rfl⟩
    by_cases hc : IsVar t ∧ t ∉ acc
    · have e1 : addV acc t = acc ++ [t] := if_pos hc
      have e2 : addV (acc.map f) (f t) = (acc ++ [t]).map f := by
        rw [List.map_append]
        exact if_pos ⟨(h.iff hT).mpr hc.1, fun z => hc.2 ((hmem hc.1).mp z)⟩
      rw [e1, e2]
      refine addV_map h hs' fun u hu => ?_
      rcases List.mem_append.mp hu with hu | hu
      · exact ha u hu
      · rw [List.mem_singleton.mp hu]; exact ⟨hT, hc.1⟩
    · have e1 : addV acc t = acc := if_neg hc
      have e2 : addV (acc.map f) (f t) = acc.map f := if_neg fun z => hc ⟨(h.iff hT).mp z.1, fun y => z.2 ((hmem ((h.iff hT).mp z.1)).mpr y)⟩
      rw [e1, e2]
      exact addV_map h hs' ha
theorem vars_mapR {f : Str → Str} {r : Ru} (h : Ren f (termsF r)) : varsF (mapR f r) = (varsF r).map f := by
  unfold varsF
  rw [terms_mapR]
  have := addV_map h (ts := termsF r) (acc := []) (fun t ht => ht) (fun t ht => nomatch ht)
  exact this
theorem addV_nodup : ∀ {ts acc : List Str}, acc.Nodup → (ts.foldl addV acc).Nodup
  | [], _, h => h
  | t :: ts, acc, h => by
    rw [List.foldl_cons]
    refine addV_nodup ?_
    unfold addV
    split
    · rename_i c
      exact List.nodup_append.mpr ⟨h, List.nodup_cons.mpr ⟨List.not_mem_nil, List.nodup_nil⟩, fun a ha b hb e => by
        rw [List.mem_singleton.mp hb] at e
        exact c.2 (e ▸ ha)⟩
    · exact h
theorem vars_nodup (r : Ru) : (varsF r).Nodup := addV_nodup List.nodup_nil
/-! ### the turn by a table -/
def subT (m : List (Str × Str)) (t : Str) : Str := (m.lookup t).getD t
theorem lookup_none {m : List (Str × Str)} {t : Str} (h : t ∉ m.map (·.1)) : m.lookup t = none := by
  induction m with
  | nil => rfl
  | cons p m ih =>
    rw [List.map_cons, List.mem_cons, not_or] at h
    obtain ⟨a, b⟩ := p
    rw [List.lookup_cons]
    have : (t == a) = false := beq_eq_false_iff_ne.mpr h.1
    rw [this]
    exact ih h.2
theorem lookup_map {f : Str → Str} : ∀ {vs L : List Str} {t : Str}, (∀ u ∈ vs, f u = f t → u = t) → ((vs.map f).zip L).lookup (f t) = (vs.zip L).lookup t
  | [], L, t, _ => rfl
  | v :: vs, [], t, _ => rfl
  | v :: vs, l :: L, t, h => by
    rw [List.map_cons, List.zip_cons_cons, List.zip_cons_cons, List.lookup_cons, List.lookup_cons, lookup_map (vs := vs) fun u hu => h u (List.mem_cons_of_mem _ hu)]
    by_cases e : v = t
    · subst e; simp
    · have e1 : (t == v) = false := beq_eq_false_iff_ne.mpr fun z => e z.symm
      have e2 : (f t == f v) = false := beq_eq_false_iff_ne.mpr fun z => e (h v List.mem_cons_self z.symm)
      rw [e1, e2]
/-- the same, plain -/
noncomputable def plainR (L : List Str) (r : Ru) : Ru := mapR (subT ((varsF r).zip L)) r
theorem zip_keys {vs L : List Str} {t : Str} (h : t ∈ (vs.zip L).map (·.1)) : t ∈ vs := by
  obtain ⟨p, hp, rfl⟩ := List.mem_map.mp h
  exact (List.of_mem_zip hp).1
theorem lookup_some : ∀ {vs L : List Str} {t : Str}, t ∈ vs → vs.length ≤ L.length → ∃ l, (vs.zip L).lookup t = some l ∧ l ∈ L
  | v :: vs, [], t, _, hl => by simp at hl
  | v :: vs, l :: L, t, h, hl => by
    rw [List.zip_cons_cons, List.lookup_cons]
    by_cases e : t = v
    · subst e; exact ⟨l, by simp, List.mem_cons_self⟩
    · have e1 : (t == v) = false := beq_eq_false_iff_ne.mpr e
      rw [e1]
      have hm : t ∈ vs := (List.mem_cons.mp h).resolve_left e
      obtain ⟨l', h1, h2⟩ := lookup_some (L := L) hm (by simpa using hl)
      exact ⟨l', h1, List.mem_cons_of_mem _ h2⟩
theorem plain_ren {L : List Str} {f : Str → Str} {r : Ru} (hL : (varsF r).length ≤ L.length) (h : Ren f (termsF r)) : plainR L (mapR f r) = plainR L r := by
  unfold plainR
  rw [vars_mapR h, mapR_comp]
  refine mapR_congr fun t ht => ?_
  by_cases hv : IsVar t
  · have hmem : t ∈ varsF r := (mem_varsF r t).mpr ⟨hv, ht⟩
    have e := lookup_map (f := f) (vs := varsF r) (L := L) (t := t) fun u hu e => h.inj u ((mem_varsF r u).mp hu).2 t ht ((mem_varsF r u).mp hu).1 hv e
    obtain ⟨l, hl, _⟩ := lookup_some (L := L) hmem hL
    unfold subT
    rw [e, hl]; rfl
  · have e := h.word t ht hv
    rw [e]
    unfold subT
    rw [lookup_none fun z => hv ((mem_varsF r t).mp (zip_keys z)).1, lookup_none fun z => ?_]
    obtain ⟨u, hu, e'⟩ := List.mem_map.mp (zip_keys z)
    obtain ⟨hu1, hu2⟩ := (mem_varsF r u).mp hu
    exact hv (e' ▸ h.var u hu2 hu1)
end Lw

namespace Lw
open PySem PySem.W L2 Pv
@[simp] theorem mGet2_e {ma mb mc : Pv.Env → R PyData} {ρ : Pv.Env} : mGet2 ma mb mc ρ = (ma ρ).bind fun d => match d with | .dict es => if isN es = true then .st else (mb ρ).bind fun e => (mc ρ).bind fun f => (match eKey e with | some k => .ok ((dLookK es k).getD f) | none => .st) | _ => .st := (rfl)
@[simp] theorem mDictZip_e {ma mb : Pv.Env → R PyData} {ρ : Pv.Env} : mDictZip ma mb ρ = (ma ρ).bind fun d => (mb ρ).bind fun e => match d, e with | .list xs, .list ys => (match eKeys xs with | some ks => .ok (.dict ((ks.zip ys).foldl (fun acc p => dPutK acc p.1 p.2) [])) | none => .st) | _, _ => .st := (rfl)
abbrev dcL (m : List (Str × Str)) : List (PyData × PyData) := m.map fun p => (.str p.1, .str p.2)
abbrev dcD (m : List (Str × Str)) : PyData := .dict (dcL m)
@[simp] theorem isN_dc (m : List (Str × Str)) : isN (dcL m) = false := by cases m <;> rfl
@[simp] theorem eKey_s (x : Str) : eKey (.str x) = some (.inr x) := rfl
theorem isKey_s (x t : Str) : isKey (.str x) (.inr t) = decide (x = t) := isKey_keyD (.inr x) (.inr t) |>.trans (decide_eq_decide.mpr ⟨fun e => Sum.inr.inj e, fun e => congrArg _ e⟩)
theorem look_dc (m : List (Str × Str)) (t : Str) : dLookK (dcL m) (.inr t) = (m.lookup t).map .str := by
  induction m with
  | nil => rfl
  | cons p m ih =>
    obtain ⟨a, b⟩ := p
    unfold dLookK at ih ⊢
    show Option.map _ (List.find? _ ((PyData.str a, PyData.str b) :: dcL m)) = _
    rw [List.find?_cons, List.lookup_cons]
    simp only [isKey_s]
    by_cases e : a = t
    · subst e; simp
    · have e1 : (t == a) = false := beq_eq_false_iff_ne.mpr fun z => e z.symm
      rw [decide_eq_false e, e1]
      exact ih
theorem get_dc (m : List (Str × Str)) (t : Str) : (dLookK (dcL m) (.inr t)).getD (.str t) = .str (subT m t) := by
  rw [look_dc]
  unfold subT
  cases m.lookup t <;> rfl
theorem with_terms_spec (a : At) (m : List (Str × Str)) : d_with_terms [atD a, dcD m] = .ok (atD (mapA (subT m) a)) := by
  rw [eq_ok]
  show OkR (endD (m_with_terms [.bo (atD a), .bo (dcD m), .un])) _ _
  rw [okR_end, m_with_terms]
  simp [atI2_0, atI2_1]
  refine okR_comp (fun t => .str (subT m t)) (fun t ht => by simp [get_dc]) ?_
  simp [mapA]
theorem rule_with_spec (r : Ru) (m : List (Str × Str)) : d_rule_with [ruD r, dcD m] = .ok (ruD (mapR (subT m) r)) := by
  rw [eq_ok]
  show OkR (endD (m_rule_with [.bo (ruD r), .bo (dcD m), .un, .un])) _ _
  rw [okR_end, m_rule_with]
  simp [atI2_0, atI2_1, with_terms_spec]
  refine okR_comp (fun l : Li => liD (l.1, mapA (subT m) l.2)) (fun l hl => by simp [with_terms_spec]) ?_
  simp [mapR]
theorem eKeys_strs : ∀ xs : List Str, eKeys (strsD xs) = some (xs.map Sum.inr)
  | [] => rfl
  | x :: xs => by
    rw [strsD, List.map_cons, eKeys]
    have := eKeys_strs xs
    rw [strsD] at this
    rw [this]; rfl
theorem any_dc (m : List (Str × Str)) (t : Str) (h : t ∉ m.map (·.1)) : ((dcL m).any fun p => isKey p.1 (.inr t)) = false := by
  rw [Bool.eq_false_iff]
  intro z
  obtain ⟨p, hp, e⟩ := List.any_eq_true.mp z
  obtain ⟨q, hq, rfl⟩ := List.mem_map.mp hp
  rw [isKey_s, decide_eq_true_eq] at e
  exact h (List.mem_map.mpr ⟨q, hq, e⟩)
theorem put_new (m : List (Str × Str)) (t x : Str) (h : t ∉ m.map (·.1)) : dPutK (dcL m) (.inr t) (.str x) = dcL (m ++ [(t, x)]) := by
  unfold dPutK
  rw [any_dc m t h, if_neg (by decide)]
  show dcL m ++ [(PyData.str t, PyData.str x)] = List.map _ (m ++ [(t, x)])
  rw [List.map_append]; rfl
theorem fold_zip : ∀ {vs L : List Str} {m : List (Str × Str)}, vs.Nodup → (∀ v ∈ vs, v ∉ m.map (·.1)) → ((vs.map Sum.inr).zip (strsD L)).foldl (fun acc p => dPutK acc p.1 p.2) (dcL m) = dcL (m ++ vs.zip L)
  | [], L, m, _, _ => by simp
  | v :: vs, [], m, _, _ => by simp
  | v :: vs, l :: L, m, hn, hm => by
    obtain ⟨h1, h2⟩ := List.nodup_cons.mp hn
    rw [strsD, List.map_cons, List.map_cons, List.zip_cons_cons, List.foldl_cons, put_new m v l (hm v List.mem_cons_self)]
    have := fold_zip (L := L) (m := m ++ [(v, l)]) h2 fun u hu => by
      rw [List.map_append, List.mem_append, not_or]
      refine ⟨hm u (List.mem_cons_of_mem _ hu), fun z => ?_⟩
      have e := List.mem_singleton.mp z
      have e : u = v := e
      exact h1 (e ▸ hu)
    rw [strsD] at this
    rw [this, List.zip_cons_cons, List.append_assoc]; rfl
def LT : List Str := GR.map one
@[irreducible] def LL : List Str := LT ++ [49, 50, 51, 52, 53, 54, 55, 56, 57].flatMap fun f => GR.map fun c => (one c ++ one f : Str)
theorem signs_GR : signsD ⟨GR.toArray⟩ = GR.map fun c => PyData.str (one c) := by unfold signsD; rfl
theorem FG9 : ("123456789" : Str) = ⟨#[49, 50, 51, 52, 53, 54, 55, 56, 57]⟩ := by decide
theorem LL_eq : LL = LT ++ [49, 50, 51, 52, 53, 54, 55, 56, 57].flatMap (fun f => GR.map fun c => (one c ++ one f : Str)) := by unfold LL; rfl
theorem LT_len : LT.length = 26 := rfl
def pnInv (n : Int) (rest : List Nat) (ρ : Pv.Env) : Prop := ∃ (xs : List Str) (j2 j3 : Sl), ρ = [.fr (.int n), .ow (.list (strsD xs)), j2, j3] ∧ xs ++ rest.flatMap (fun f => GR.map fun c => (one c ++ one f : Str)) = LL ∧ xs.length + 26 * rest.length = 260
end Lw

namespace Lw
open PySem PySem.W L2 Pv
@[simp] theorem mExt_e {i : Nat} {ma : Pv.Env → R PyData} {ρ : Pv.Env} : mExt i ma ρ = match ρ[i]? with | some (.ow (.list ds)) => (ma ρ).bind fun d => (match d with | .list es => if ds.length + es.length ≤ sizeLine then .ok (.nx (ρ.set i (.ow (.list (ds ++ es))))) else .st | _ => .st) | _ => .st := (rfl)
theorem q26 : 26 ≤ sizeLine := Nat.le_trans (show 26 ≤ 1000 by decide) sizeLine_ge
theorem q9 : 9 ≤ sizeLine := Nat.le_trans (show 9 ≤ 1000 by decide) sizeLine_ge
theorem items_GR {ρ : Pv.Env} : mItems (mC (.str ⟨GR.toArray⟩)) ρ = .ok (GR.map fun c => PyData.str (one c)) := by
  rw [mItems_e, mC_e, bind_okE, gItems_s, if_pos (show (⟨GR.toArray⟩ : Str).length ≤ sizeLine from q26), signs_GR]
def N9 : List Nat := [49, 50, 51, 52, 53, 54, 55, 56, 57]
theorem items_9 {ρ : Pv.Env} : mItems (mC (.str ⟨N9.toArray⟩)) ρ = .ok (N9.map fun c => PyData.str (one c)) := by
  rw [mItems_e, mC_e, bind_okE, gItems_s, if_pos (show (⟨N9.toArray⟩ : Str).length ≤ sizeLine from q9)]
  unfold signsD
  rfl
theorem FG9' : ("123456789" : Str) = ⟨N9.toArray⟩ := FG9
theorem lt_strs : (GR.map fun c => PyData.str (one c)) = strsD LT := by
  rw [strsD, LT, List.map_map]; rfl
theorem plain_names_spec (n : Nat) : d_plain_names [.int n] = .ok (.list (strsD (LL.take n))) := by
  rw [eq_ok]
  show OkR (endD (m_plain_names [.fr (.int n), .un, .un, .un])) _ _
  rw [okR_end, m_plain_names]
  refine okR_seq (fun ρ => ρ = [.fr (.int n), .ow (.list (strsD LT)), .un, .un]) ?_ ?_
  · rw [GR_eq, mSet_e, mLc_e, items_GR, bind_okE, okR_bind]
    refine okR_comp (fun c => .str (one c)) (fun c hc => by simp) ?_
    rw [lt_strs]
    exact ⟨_, rfl, rfl⟩
  rintro _ rfl
  refine okR_seq (fun ρ => ∃ j2 j3 : Sl, ρ = [.fr (.int n), .ow (.list (strsD LL)), j2, j3]) ?_ ?_
  · rw [FG9', mFor_e, items_9, bind_okE]
    refine okR_forE (pnInv n) ⟨LT, .un, .un, rfl, LL_eq.symm, by rw [LT_len]; rfl⟩ ?_ ?_
    · rintro f rest _ hf ⟨xs, j2, j3, rfl, e, hl⟩
      rw [mtName_e, bind_okE]
      have sl := sizeLine_ge
      have q2 : ∀ c d : Nat, (one c).length + (one d).length ≤ sizeLine := fun c d => Nat.le_trans (show 2 ≤ 1000 by decide) sl
      simp [GR_eq, signs_GR]
      refine ⟨q26, okR_comp (fun c => .str (one c ++ one f)) (fun c hc => by simp [q2]) ?_⟩
      have hlen : (GR.map fun c => PyData.str (one c ++ one f)).length = 26 := by rw [List.length_map]; rfl
      rw [hlen, okR_iteS]
      rw [List.length_cons] at hl
      refine ⟨Nat.le_trans (show xs.length + 26 ≤ 1000 by omega) sl, xs ++ GR.map (fun c => (one c ++ one f : Str)), _, _, by
        have : strsD (xs ++ GR.map (fun c => (one c ++ one f : Str))) = strsD xs ++ GR.map (fun c => PyData.str (one c ++ one f)) := by
          show List.map _ (xs ++ _) = _
          rw [List.map_append, List.map_map]; rfl
        rw [this], ?_, ?_⟩
      · rw [← e, List.flatMap_cons, List.append_assoc]
      · have : (GR.map fun c => (one c ++ one f : Str)).length = 26 := by rw [List.length_map]; rfl
        rw [List.length_append, this]
        omega
    · rintro _ ⟨xs, j2, j3, rfl, e, hl⟩
      rw [List.flatMap_nil, List.append_nil] at e
      subst e
      exact ⟨_, rfl, j2, j3, rfl⟩
  rintro _ ⟨j2, j3, rfl⟩
  simp
  unfold cutD
  rw [HT.sIx_none, HT.sIx_nat, List.drop_zero, Nat.sub_zero]
  by_cases h : n ≤ (strsD LL).length
  · rw [Nat.min_eq_left h]
  · rw [Nat.min_eq_right (by omega), List.take_of_length_le (Nat.le_refl _), List.take_of_length_le (Nat.le_of_lt (Nat.not_le.mp h))]
end Lw

namespace Lw
open PySem PySem.W L2 Pv
theorem zip_take : ∀ {vs L : List Str}, vs.zip (L.take vs.length) = vs.zip L
  | [], L => rfl
  | v :: vs, [] => rfl
  | v :: vs, l :: L => by
    rw [List.length_cons, List.take_succ_cons, List.zip_cons_cons, List.zip_cons_cons, zip_take]
theorem dictZip_vs {vs L : List Str} (h : vs.Nodup) : ((vs.map Sum.inr).zip (strsD L)).foldl (fun acc (p : Key × PyData) => dPutK acc p.1 p.2) [] = dcL (vs.zip L) := by
  have := fold_zip (vs := vs) (L := L) (m := []) h fun v _ z => nomatch z
  exact this
theorem plain_spec (r : Ru) (h : WfRule r) : d_plain [ruD r] = .ok (ruD (plainR LL r)) := by
  rw [eq_ok]
  show OkR (endD (m_plain [.bo (ruD r), .un])) _ _
  rw [okR_end, m_plain]
  have hv := variables_of_spec r h
  have hr := rule_with_spec r ((varsF r).zip LL)
  have hz := dictZip_vs (L := LL.take (varsF r).length) (vars_nodup r)
  rw [zip_take] at hz
  simp only [strsD, List.map_take] at hz
  have hn := plain_names_spec (varsF r).length
  refine okR_seq (fun ρ => ρ = [.bo (ruD r), .fr (.list (strsD (varsF r)))]) (by simp [hv]) ?_
  rintro _ rfl
  simp [hn, eKeys_strs]
  rw [hz, hr]
  exact rfl
end Lw

namespace Lw
open PySem PySem.W L2 Pv
def ltInv (r : Ru) (rest : List Li) (ρ : Pv.Env) : Prop := ∃ (xs : List Str) (j : Sl), ρ = [.bo (ruD r), .fr (.list (strsD xs)), j] ∧ xs ++ (rest.map fun l : Li => l.2).flatMap (fun a : At => a.2.items) = termsF r ∧ xs.length + 3 * rest.length ≤ 15
def ltEnd (r : Ru) (ρ : Pv.Env) : Prop := ∃ j, ρ = [.bo (ruD r), .fr (.list (strsD (termsF r))), j]
theorem law_terms_spec (r : Ru) (h : WfRule r) : d_law_terms [ruD r] = .ok (.list (strsD (termsF r))) := by
  rw [eq_ok]
  show OkR (endD (m_law_terms [.bo (ruD r), .un, .un])) _ _
  rw [okR_end, m_law_terms]
  have sl := sizeLine_ge
  refine okR_seq (fun ρ => ρ = [.bo (ruD r), .fr (.list (strsD r.1.2.items)), .un]) (by simp [atI2_0, atI2_1]) ?_
  rintro _ rfl
  refine okR_seq (ltEnd r) ?_ ?_
  · simp [atI2_1]
    refine okR_forE (ltInv r) ⟨r.1.2.items, .un, rfl, rfl, by have := h.len; have := h.head.len; omega⟩ ?_ ?_
    · rintro l rest _ hl ⟨xs, j, rfl, e, hn⟩
      rw [mtName_e, bind_okE]
      have h3 := (h.lits l hl).atom.len
      rw [List.length_cons] at hn
      simp [atI2_0, atI2_1]
      refine ⟨by omega, xs ++ l.2.2.items, _, by simp [strsD]; rfl, ?_, ?_⟩
      · rw [← e, List.map_cons, List.flatMap_cons, List.append_assoc]
      · rw [List.length_append]; omega
    · rintro _ ⟨xs, j, rfl, e, hn⟩
      have : xs = termsF r := by simpa using e
      subst this
      exact ⟨_, rfl, j, rfl⟩
  rintro _ ⟨j, rfl⟩
  simp
end Lw

namespace Lw
open PySem PySem.W L2 Pv
/-! ### kinds, renaming by a table -/
noncomputable def kindsOf (r : Ru) : List PyData := .tuple [.str r.1.1, .int r.1.2.items.length] :: r.2.items.map fun l : Li => .tuple [.str l.1, .str l.2.1, .int l.2.2.items.length]
theorem kinds_of_spec (r : Ru) (h : r.2.items.length ≤ 100) : d_law_kinds_of [ruD r] = .ok (.list (kindsOf r)) := by
  rw [eq_ok]
  show OkR (endD (m_law_kinds_of [.bo (ruD r), .un])) _ _
  rw [okR_end, m_law_kinds_of]
  have sl := sizeLine_ge
  simp [atI2_0, atI2_1]
  refine okR_comp (fun l : Li => .tuple [.str l.1, .str l.2.1, .int l.2.2.items.length]) (fun l hl => by simp [atI2_0, atI2_1]) ?_
  simp [kindsOf]
  omega
theorem kindsOf_mapR (f : Str → Str) (r : Ru) : kindsOf (mapR f r) = kindsOf r := by
  simp [kindsOf, mapR, mapA]
theorem renamed_spec (r : Ru) (m : List (Str × Str)) : d_law_renamed [ruD r, dcD m] = .ok (ruD (mapR (subT m) r)) := by
  rw [eq_ok]
  show OkR (endD (m_law_renamed [.bo (ruD r), .bo (dcD m), .un, .un, .un])) _ _
  rw [okR_end, m_law_renamed]
  refine okR_seq (fun ρ => ρ = [.bo (ruD r), .bo (dcD m), .fr (.tuple (r.2.items.map fun l : Li => liD (l.1, mapA (subT m) l.2))), .un, .un]) ?_ ?_
  · simp [atI2_1]
    refine okR_comp (fun l : Li => liD (l.1, mapA (subT m) l.2)) (fun l hl => ?_) (by simp)
    simp [atI2_0, atI2_1]
    refine okR_comp (fun t => .str (subT m t)) (fun t ht => by simp [get_dc]) ?_
    simp [mapA]
  rintro _ rfl
  simp [atI2_0, atI2_1]
  refine okR_comp (fun t => .str (subT m t)) (fun t ht => by simp [get_dc]) ?_
  simp [mapR, mapA]
end Lw

namespace Lw
open PySem PySem.W L2 Pv
theorem foldl_tail : ∀ (ts acc : List Str), ∃ tl, ts.foldl addV acc = acc ++ tl
  | [], acc => ⟨[], by simp⟩
  | t :: ts, acc => by
    rw [List.foldl_cons]
    obtain ⟨tl, e⟩ := foldl_tail ts (addV acc t)
    rw [e]
    unfold addV
    split
    · exact ⟨[t] ++ tl, by rw [List.append_assoc]⟩
    · exact ⟨tl, rfl⟩
theorem lookup_pre : ∀ {vs tl L : List Str} {t l : Str}, (vs.zip L).lookup t = some l → ((vs ++ tl).zip L).lookup t = some l
  | [], tl, L, t, l, h => by simp at h
  | v :: vs, tl, [], t, l, h => by simp at h
  | v :: vs, tl, l0 :: L, t, l, h => by
    rw [List.zip_cons_cons, List.lookup_cons] at h
    rw [List.cons_append, List.zip_cons_cons, List.lookup_cons]
    split at h
    · exact h
    · exact lookup_pre h
theorem put_same : ∀ {m : List (Str × Str)} {t l : Str}, (m.map (·.1)).Nodup → m.lookup t = some l → dPutK (dcL m) (.inr t) (.str l) = dcL m := by
  intro m t l hn h
  have hany : ((dcL m).any fun p => isKey p.1 (.inr t)) = true := by
    have := look_dc m t
    rw [h] at this
    unfold dLookK at this
    obtain ⟨p, hp, _⟩ := Option.map_eq_some_iff.mp this
    exact List.any_eq_true.mpr ⟨p, List.mem_of_find?_eq_some hp, by have := List.find?_some hp; simpa using this⟩
  unfold dPutK
  rw [if_pos hany]
  clear hany
  induction m with
  | nil => rfl
  | cons p m ih =>
    obtain ⟨a, b⟩ := p
    obtain ⟨h1, h2⟩ := List.nodup_cons.mp hn
    rw [List.lookup_cons] at h
    show (if isKey (.str a) (.inr t) = true then (PyData.str a, PyData.str l) else (PyData.str a, PyData.str b)) :: _ = (PyData.str a, PyData.str b) :: dcL m
    rw [isKey_s]
    by_cases e : a = t
    · subst e
      simp at h
      subst h
      rw [if_pos (by simp)]
      congr 1
      refine (List.map_congr_left fun q hq => ?_).trans (List.map_id _)
      obtain ⟨z, hz, rfl⟩ := List.mem_map.mp hq
      have : isKey (PyData.str z.1) (.inr a) = false := by
        rw [isKey_s]
        exact decide_eq_false fun e => h1 (e ▸ List.mem_map.mpr ⟨z, hz, rfl⟩)
      rw [this]; rfl
    · have e1 : (t == a) = false := beq_eq_false_iff_ne.mpr fun z => e z.symm
      rw [e1] at h
      rw [if_neg (by simpa using e)]
      congr 1
      exact ih h2 h
end Lw

namespace Lw
open PySem PySem.W L2 Pv
@[simp] theorem mDput_e {i : Nat} {mk mv : Pv.Env → R PyData} {ρ : Pv.Env} : mDput i mk mv ρ = match ρ[i]? with | some (.ow (.dict es)) => (mv ρ).bind fun d => (mk ρ).bind fun e => (if isN es = true then .st else match eKey e with | some k => if es.length < sizeLine then .ok (.nx (ρ.set i (.ow (.dict (dPutK es k d))))) else .st | none => .st) | _ => .st := (rfl)
@[simp] theorem gDget_d {es : List (PyData × PyData)} {e : PyData} : gDget (.dict es) e = if isN es = true then .st else match eKey e with | some k => (match dLookK es k with | some x => .ok x | none => .st) | none => .st := (rfl)
@[simp] theorem gLenD_d {es : List (PyData × PyData)} : gLenD (.dict es) = if isN es = true then .st else .ok (.int es.length) := (rfl)
@[simp] theorem mDnew_e {ρ : Pv.Env} : mDnew ρ = .ok (.dict []) := (rfl)
@[simp] theorem mZip_e {ma mb : Pv.Env → R PyData} {ρ : Pv.Env} : mZip ma mb ρ = (ma ρ).bind fun d => (mb ρ).bind fun e => match d, e with | .list xs, .list ys => .ok (pairD xs ys) | .tuple xs, .tuple ys => .ok (pairD xs ys) | _, _ => .st := (rfl)
theorem pair_map (f : Str → Str) : ∀ ts : List Str, pairD (strsD ts) (strsD (ts.map f)) = ts.map fun t => .tuple [.str t, .str (f t)]
  | [] => rfl
  | t :: ts => by
    have ih := pair_map f ts
    rw [strsD, strsD] at ih ⊢
    rw [List.map_cons, List.map_cons, List.map_cons, List.map_cons, pairD, ih]
theorem LL_4 : ∃ tl, LL = [("A" : Str), "B", "C", "D"] ++ tl := by
  rw [LL_eq]
  exact ⟨_, rfl⟩
end Lw

namespace Lw
open PySem PySem.W L2 Pv
structure TI (r : Ru) (vs : List Str) (rest : List Str) : Prop where
  go : rest.foldl addV vs = varsF r
  nd : vs.Nodup
  var : ∀ v ∈ vs, IsVar v
def zInv (ns : List Int) (r : Ru) (j6 j7 j9 : Sl) (rest : List Str) (ρ : Pv.Env) : Prop := ∃ (vs : List Str) (j4 j5 j8 : Sl), ρ = [.bo (scr ns), .fr (ruD r), .fr (ruD (plainR LL r)), .ow (dcD (vs.zip LL)), j4, j5, j6, j7, j8, j9] ∧ TI r vs rest
theorem TI.len {r : Ru} {vs rest : List Str} (h : TI r vs rest) : vs.length ≤ (varsF r).length := by
  obtain ⟨tl, e⟩ := foldl_tail rest vs
  rw [h.go] at e
  rw [e, List.length_append]
  omega
theorem TI.sub {r : Ru} {vs rest : List Str} (h : TI r vs rest) {t l : Str} (e : (vs.zip LL).lookup t = some l) : subT ((varsF r).zip LL) t = l := by
  obtain ⟨tl, e2⟩ := foldl_tail rest vs
  rw [h.go] at e2
  unfold subT
  rw [e2, lookup_pre e]; rfl
theorem zip_keysN : ∀ {vs L : List Str}, vs.length ≤ L.length → (vs.zip L).map (·.1) = vs
  | [], L, _ => by simp
  | v :: vs, [], h => by simp at h
  | v :: vs, l :: L, h => by
    rw [List.zip_cons_cons, List.map_cons, zip_keysN (by simpa using h)]
theorem LL_len : LL.length = 260 := by rw [LL_eq, List.length_append]; rfl
theorem LL_at (i : Nat) (h : i ≤ 3) : atI [PyData.str "A", .str "B", .str "C", .str "D"] (i : Int) = some (.str (LL[i]'(by rw [LL_len]; omega))) := by
  obtain ⟨tl, e⟩ := LL_4
  have : i = 0 ∨ i = 1 ∨ i = 2 ∨ i = 3 := by omega
  rcases this with rfl | rfl | rfl | rfl <;> (simp only [e]; rfl)
theorem zip_snoc : ∀ {vs L : List Str} {t : Str} (h : vs.length < L.length), (vs ++ [t]).zip L = vs.zip L ++ [(t, L[vs.length])]
  | [], l :: L, t, _ => by simp
  | v :: vs, l :: L, t, h => by
    rw [List.cons_append, List.zip_cons_cons, List.zip_cons_cons, zip_snoc (by simpa using h)]; rfl
  | vs, [], t, h => by simp at h
end Lw

namespace Lw
open PySem PySem.W L2 Pv
theorem zip_step {ns : List Int} {r : Ru} {j6 j7 j9 : Sl} {t : Str} {rest : List Str} {ρ : Pv.Env} {w : Xn → Prop} {K : Fl → Prop} (h3 : (varsF r).length ≤ 3) (hx : IsVar t ↔ t ∈ XYZ) (hI : zInv ns r j6 j7 j9 (t :: rest) ρ) (hK : ∀ ρ', zInv ns r j6 j7 j9 rest ρ' → K (.nx ρ')) :
    OkR ((mtTup 2 (mtCons (mtName 4) (mtCons (mtName 5) (mtNil))) (.tuple [.str t, .str (subT ((varsF r).zip LL) t)]) ρ).bind
      (mSeq (mSet 8 .f (mVar 4))
  (mSeq (mIf (mT2 gIn (mVarB 4) (mLst [mC (.str "X"), mC (.str "Y"), mC (.str "Z")]))
  (mSeq (mDput 3 (mVarB 4) (mGet2 (mVarB 3) (mVarB 4) (m2 gIxS (mLst [mC (.str "A"), mC (.str "B"), mC (.str "C"), mC (.str "D")]) (m1 gLenD (mVarB 3)))))
  (mSet 8 .f (m2 gDget (mVarB 3) (mVarB 4))))
  (mNext))
  (mIf (mT2 gNe (mVarB 5) (mVarB 8))
  (mRet (mC (.bool false)))
  (mNext))))) K w := by
  obtain ⟨vs, j4, j5, j8, rfl, hT⟩ := hI
  have sl := sizeLine_ge
  have hl := hT.len
  have hL := LL_len
  have hlen : (vs.zip LL).length = vs.length := by rw [List.length_zip]; omega
  have hat := LL_at vs.length (by omega)
  by_cases hv : t ∈ XYZ
  · have hV := hx.mpr hv
    by_cases hm : t ∈ vs
    · obtain ⟨l, hlk, _⟩ := lookup_some (L := LL) hm (by omega)
      have hs := hT.sub hlk
      have hlook : dLookK (dcL (vs.zip LL)) (.inr t) = some (.str l) := by rw [look_dc, hlk]; rfl
      have hput := put_same (m := vs.zip LL) (by rw [zip_keysN (by omega)]; exact hT.nd) hlk
      have e : addV vs t = vs := if_neg fun z => z.2 hm
      simp only [dcL] at hlook hput
      simp [in_XYZ, hv, hs, hat, hlook, hput, hlen]
      refine ⟨by omega, hK _ ⟨vs, _, _, _, rfl, ?_, hT.nd, hT.var⟩⟩
      have := hT.go
      rw [List.foldl_cons, e] at this
      exact this
    · have hlt : vs.length < LL.length := by omega
      have hz := zip_snoc (t := t) hlt
      have hkeys := zip_keysN (vs := vs) (L := LL) (by omega)
      have hnone : dLookK (dcL (vs.zip LL)) (.inr t) = none := by rw [look_dc, lookup_none (by rw [hkeys]; exact hm)]; rfl
      have hput := put_new (vs.zip LL) t LL[vs.length] (by rw [hkeys]; exact hm)
      rw [← hz] at hput
      have e : addV vs t = vs ++ [t] := if_pos ⟨hV, hm⟩
      have hgo := hT.go
      rw [List.foldl_cons, e] at hgo
      have hT' : TI r (vs ++ [t]) rest := ⟨hgo, List.nodup_append.mpr ⟨hT.nd, List.nodup_cons.mpr ⟨List.not_mem_nil, List.nodup_nil⟩, fun a ha b hb e => hm (by rw [← List.mem_singleton.mp hb, ← e]; exact ha)⟩, fun v hv => by
        rcases List.mem_append.mp hv with h | h
        · exact hT.var v h
        · rw [List.mem_singleton.mp h]; exact hV⟩
      have hl' := hT'.len
      rw [List.length_append, List.length_singleton] at hl'
      obtain ⟨l, hlk, _⟩ := lookup_some (vs := vs ++ [t]) (L := LL) (t := t) (by simp) (by rw [List.length_append, List.length_singleton]; omega)
      have hs := hT'.sub hlk
      have hlook : dLookK (dcL ((vs ++ [t]).zip LL)) (.inr t) = some (.str l) := by rw [look_dc, hlk]; rfl
      simp only [dcL] at hnone hput hlook
      simp [in_XYZ, hv, hs, hat, hnone, hput, hlook, hlen]
      exact ⟨by omega, hK _ ⟨vs ++ [t], _, _, _, rfl, hT'⟩⟩
  · have hnv : ¬IsVar t := fun z => hv (hx.mp z)
    have e : addV vs t = vs := if_neg fun z => hnv z.1
    have hs : subT ((varsF r).zip LL) t = t := by
      unfold subT
      rw [lookup_none fun z => hnv ((mem_varsF r t).mp (zip_keys z)).1]; rfl
    simp [in_XYZ, hv, hs]
    refine hK _ ⟨vs, _, _, _, rfl, ?_, hT.nd, hT.var⟩
    have := hT.go
    rw [List.foldl_cons, e] at this
    exact this
end Lw

namespace Lw
open PySem PySem.W L2 Pv
theorem yesT_mapR (f : Str → Str) (r : Ru) : yesT (mapR f r).2.items = (yesT r.2.items).map f := by
  show yesT (r.2.items.map fun l => (l.1, mapA f l.2)) = _
  generalize r.2.items = ls
  induction ls with
  | nil => rfl
  | cons l ls ih =>
    unfold yesT at ih ⊢
    rw [List.map_cons]
    by_cases e : l.1 = YES
    · rw [List.filter_cons_of_pos (by simpa using e), List.filter_cons_of_pos (by simpa using e), List.flatMap_cons, List.flatMap_cons, List.map_append, ih]; rfl
    · rw [List.filter_cons_of_neg (by simpa using e), List.filter_cons_of_neg (by simpa using e), ih]
theorem atom_map {f : Str → Str} {S : List Str} (hR : Ren f S) {a : At} (h : IsAtom a) (hs : ∀ t ∈ a.2.items, t ∈ S) : IsAtom (mapA f a) where
  kind := h.kind
  len := by have := h.len; simpa [mapA] using this
  terms := fun t ht => by
    obtain ⟨u, hu, rfl⟩ := List.mem_map.mp ht
    by_cases hv : IsVar u
    · exact .inr (hR.var u (hs u hu) hv)
    · rw [hR.word u (hs u hu) hv]
      exact h.terms u hu
theorem rule_map {f : Str → Str} {r : Ru} (h : IsRule r) (hR : Ren f (termsF r)) : IsRule (mapR f r) := by
  have hs : ∀ a ∈ atomsF r, ∀ t ∈ a.2.items, t ∈ termsF r := fun a ha t ht => List.mem_flatMap.mpr ⟨a, ha, ht⟩
  refine ⟨⟨atom_map hR h.head (hs _ List.mem_cons_self), by have := h.len; simpa [mapR] using this, fun l hl => ?_⟩, fun v hv => ?_⟩
  · obtain ⟨l0, hl0, rfl⟩ := List.mem_map.mp hl
    exact ⟨(h.lits l0 hl0).sign, atom_map hR (h.lits l0 hl0).atom (hs _ (List.mem_cons_of_mem _ (List.mem_map.mpr ⟨l0, hl0, rfl⟩)))⟩
  · rw [vars_mapR hR] at hv
    obtain ⟨u, hu, rfl⟩ := List.mem_map.mp hv
    rw [yesT_mapR]
    exact List.mem_map.mpr ⟨u, h.safe u hu, rfl⟩
end Lw

namespace Lw
open PySem PySem.W L2 Pv
/-- a table of variables to variables, one to one on the variables of S -/
theorem ren_table {m : List (Str × Str)} {S : List Str} (hk : ∀ t ∈ S, ¬IsVar t → m.lookup t = none) (hv : ∀ t ∈ S, IsVar t → IsVar (subT m t)) (hi : ∀ t ∈ S, ∀ u ∈ S, IsVar t → IsVar u → subT m t = subT m u → t = u) : Ren (subT m) S :=
  ⟨hv, fun t ht hn => by unfold subT; rw [hk t ht hn]; rfl, hi⟩
theorem LL_var : ∀ l ∈ LL, IsVar l := fun l hl => by
  rw [LL_eq] at hl
  rcases List.mem_append.mp hl with h | h
  · obtain ⟨c, hc, rfl⟩ := List.mem_map.mp h
    exact .inl ⟨c, hc, rfl⟩
  · obtain ⟨f, hf, h⟩ := List.mem_flatMap.mp h
    obtain ⟨c, hc, rfl⟩ := List.mem_map.mp h
    refine .inr ⟨c, f, hc, ?_, by rw [cps_app]; rfl⟩
    simp at hf
    rcases hf with rfl | rfl | rfl | rfl | rfl | rfl | rfl | rfl | rfl <;> decide
theorem in_zip : ∀ {vs L : List Str} {x l : Str}, (vs.zip L).lookup x = some l → l ∈ L
  | [], L, x, l, h => by simp at h
  | v :: vs, [], x, l, h => by simp at h
  | v :: vs, l1 :: L, x, l, h => by
    rw [List.zip_cons_cons, List.lookup_cons] at h
    split at h
    · cases h; exact List.mem_cons_self
    · exact List.mem_cons_of_mem _ (in_zip h)
theorem lookup_inj : ∀ {vs L : List Str} {t u l : Str}, L.Nodup → (vs.zip L).lookup t = some l → (vs.zip L).lookup u = some l → t = u
  | [], L, t, u, l, _, h, _ => by simp at h
  | v :: vs, [], t, u, l, _, h, _ => by simp at h
  | v :: vs, l0 :: L, t, u, l, hn, h1, h2 => by
    obtain ⟨n1, n2⟩ := List.nodup_cons.mp hn
    rw [List.zip_cons_cons, List.lookup_cons] at h1 h2
    have inL : ∀ {x : Str}, (vs.zip L).lookup x = some l → l ∈ L := fun {x} h => in_zip h
    by_cases e1 : t = v
    · by_cases e2 : u = v
      · rw [e1, e2]
      · have a : (t == v) = true := by simpa using e1
        have b : (u == v) = false := beq_eq_false_iff_ne.mpr e2
        rw [a] at h1; rw [b] at h2
        cases h1
        exact (n1 (inL h2)).elim
    · have a : (t == v) = false := beq_eq_false_iff_ne.mpr e1
      rw [a] at h1
      by_cases e2 : u = v
      · have b : (u == v) = true := by simpa using e2
        rw [b] at h2
        cases h2
        exact (n1 (inL h1)).elim
      · have b : (u == v) = false := beq_eq_false_iff_ne.mpr e2
        rw [b] at h2
        exact lookup_inj n2 h1 h2
end Lw

namespace Lw
open PySem PySem.W L2 Pv
theorem gEq_same {n : Nat} {d : PyData} (h : tame n d) (hn : n ≤ 60) : gEq d d = .ok true := by
  obtain ⟨h1, h2⟩ := tame_ok h
  unfold gEq
  rw [if_pos (by rw [h1]; simp only [Bool.and_self, Bool.true_and, decide_eq_true_eq]; omega)]
  exact congrArg R.ok (PySem.SeqAt.eqv_refl_plain d h1)
theorem kindsOf_tame (r : Ru) (h : WfRule r) : tame 3 (.list (kindsOf r)) := by
  have hl := h.len
  refine tame_L.mpr ⟨by simp [kindsOf]; omega, fun x hx => ?_⟩
  rcases List.mem_cons.mp hx with rfl | hx
  · exact tame_2 (tame_str (word_tame h.head.kind)) tame_I
  · obtain ⟨l, hl, rfl⟩ := List.mem_map.mp hx
    have hL := h.lits l hl
    exact tame_3 (tame_str (by rcases hL.sign with e | e <;> rw [e] <;> decide)) (tame_str (word_tame hL.atom.kind)) tame_I
theorem gEq_rule (a : Ru) (h : WfRule a) : gEq (ruD a) (ruD a) = .ok true := gEq_same (rule_tame h) (by decide)
end Lw

namespace Lw
open PySem PySem.W L2 Pv
theorem nodup_len : ∀ {vs L : List Str}, vs.Nodup → (∀ v ∈ vs, v ∈ L) → vs.length ≤ L.length
  | [], L, _, _ => Nat.zero_le _
  | v :: vs, L, hn, hs => by
    obtain ⟨n1, n2⟩ := List.nodup_cons.mp hn
    have hv := hs v List.mem_cons_self
    have := nodup_len (vs := vs) (L := L.erase v) n2 fun u hu => (List.mem_erase_of_ne (fun e : u = v => n1 (by rw [← e]; exact hu))).mpr (hs u (List.mem_cons_of_mem _ hu))
    rw [List.length_erase_of_mem hv] at this
    have hp : 0 < L.length := List.length_pos_of_mem hv
    rw [List.length_cons]
    omega
theorem drawn_terms {ns : List Int} {pu : Bool} {r : Ru} (h : DrawnRule ns pu r) : ∀ t ∈ termsF r, IsWord t ∨ t ∈ XYZ := by
  obtain ⟨hd, h0, h6, hH, hL⟩ := h.ex
  have sf : ∀ {ls t}, SafeB ns ls t → IsWord t ∨ t ∈ XYZ := fun {ls t} hs => hs.elim (fun h => .inl (words_word ns t h)) fun h => .inr h.1
  intro t ht
  obtain ⟨a, ha, hta⟩ := List.mem_flatMap.mp ht
  rcases List.mem_cons.mp ha with rfl | ha
  · exact sf (hH.terms t hta)
  · obtain ⟨l, hl, rfl⟩ := List.mem_map.mp ha
    rcases hL l hl with y | z
    · obtain ⟨k, _, _, _, c⟩ := y.ex
      exact (VT_or (c.terms t hta)).elim (fun h => .inl (words_word ns t h)) .inr
    · obtain ⟨k, _, _, c⟩ := z.ex
      exact sf (c.terms t hta)
theorem drawn_var {ns : List Int} {pu : Bool} {r : Ru} (h : DrawnRule ns pu r) {t : Str} (ht : t ∈ termsF r) : IsVar t ↔ t ∈ XYZ :=
  ⟨fun hv => (drawn_terms h t ht).resolve_left fun w => word_not_var w hv, XYZ_var⟩
theorem drawn_vars {ns : List Int} {pu : Bool} {r : Ru} (h : DrawnRule ns pu r) : (varsF r).length ≤ 3 :=
  nodup_len (L := XYZ) (vars_nodup r) fun v hv => by
    obtain ⟨h1, h2⟩ := (mem_varsF r v).mp hv
    exact (drawn_var h h2).mp h1
end Lw

namespace Lw
open PySem PySem.W L2 Pv
/-- the plain names are one to one: the first three letters -/
theorem plain_is_ren {ns : List Int} {pu : Bool} {r : Ru} (h : DrawnRule ns pu r) (hN : LL.Nodup) : Ren (subT ((varsF r).zip LL)) (termsF r) := by
  have h3 := drawn_vars h
  have hl : (varsF r).length ≤ LL.length := by rw [LL_len]; omega
  have hk : ∀ t ∈ termsF r, IsVar t → ∃ l, ((varsF r).zip LL).lookup t = some l ∧ l ∈ LL := fun t ht hv => lookup_some ((mem_varsF r t).mpr ⟨hv, ht⟩) hl
  refine ren_table (fun t ht hn => lookup_none fun z => hn ((mem_varsF r t).mp (zip_keys z)).1) (fun t ht hv => ?_) (fun t ht u hu hv hw e => ?_)
  · obtain ⟨l, e, hm⟩ := hk t ht hv
    unfold subT
    rw [e]
    exact LL_var l hm
  · obtain ⟨l, e1, _⟩ := hk t ht hv
    obtain ⟨l', e2, _⟩ := hk u hu hw
    unfold subT at e
    rw [e1, e2] at e
    have e : l = l' := e
    subst e
    exact lookup_inj hN e1 e2
end Lw

namespace Lw
open PySem PySem.W L2 Pv
theorem LL_nodup : LL.Nodup := by
  rw [LL_eq]
  decide +kernel
end Lw

namespace Lw
open PySem PySem.W L2 Pv
/-- renaming of X, Y, Z by a table that is one to one on them -/
theorem xyz_ren {ns : List Int} {pu : Bool} {r : Ru} (h : DrawnRule ns pu r) {m : List (Str × Str)} (hk : ∀ t, t ∈ m.map (·.1) → IsVar t) (hv : ∀ t ∈ XYZ, IsVar (subT m t)) (hi : ∀ t ∈ XYZ, ∀ u ∈ XYZ, subT m t = subT m u → t = u) : Ren (subT m) (termsF r) :=
  ren_table (fun t ht hn => lookup_none fun z => hn (hk t z)) (fun t ht hv' => hv t ((drawn_var h ht).mp hv')) (fun t ht u hu hv1 hv2 e => hi t ((drawn_var h ht).mp hv1) u ((drawn_var h hu).mp hv2) e)
theorem swap_ren {ns : List Int} {pu : Bool} {r : Ru} (h : DrawnRule ns pu r) : Ren (subT [("X", "Y"), ("Y", "X")]) (termsF r) := by
  refine xyz_ren h ?_ ?_ ?_
  · intro t ht
    have : ∀ t ∈ ([("X", "Y"), ("Y", "X")] : List (Str × Str)).map (·.1), varB t = true := by decide
    exact (varB_iff t).mp (this t ht)
  · intro t ht
    have : ∀ t ∈ XYZ, varB (subT [("X", "Y"), ("Y", "X")] t) = true := by decide
    exact (varB_iff _).mp (this t ht)
  · have : ∀ t ∈ XYZ, ∀ u ∈ XYZ, subT [("X", "Y"), ("Y", "X")] t = subT [("X", "Y"), ("Y", "X")] u → t = u := by decide
    exact this
end Lw

namespace Lw
open PySem PySem.W L2 Pv
@[simp] theorem gStr_i {i : Int} : gStr (.int i) = if i.natAbs.log2 < 1920 then .ok (.str (Str.ofString (toString i))) else .st := (rfl)
def ltF (ns : List Int) (x : Int) : Nat := (GR[(mixF (cellF ns 3 + x) 9689 26).toNat]?).getD 65
theorem ltF_at (ns : List Int) (x : Int) : atI GR (mixF (cellF ns 3 + x) 9689 26) = some (ltF ns x) := by
  have a := mix_nn (cellF ns 3 + x) 9689 26 (by omega) (by omega)
  have b := mix_lt (cellF ns 3 + x) 9689 26 (by omega) (by omega)
  unfold ltF
  rw [atI_nn a (by show _ < (26 : Int); omega), List.getElem?_eq_getElem (by show _ < 26; omega)]
  rfl
theorem ltF_mem (ns : List Int) (x : Int) : ltF ns x ∈ GR := by
  have a := mix_nn (cellF ns 3 + x) 9689 26 (by omega) (by omega)
  have b := mix_lt (cellF ns 3 + x) 9689 26 (by omega) (by omega)
  unfold ltF
  rw [List.getElem?_eq_getElem (by show _ < 26; omega)]
  exact List.getElem_mem _
def nmF (ns : List Int) (x : Int) : Str := one (ltF ns x) ++ Str.ofString (toString x)
theorem fig_codes : ∀ x ∈ irange 0 3, (Str.ofString (toString x)).cps.toList = [48 + x.toNat] ∧ (Str.ofString (toString x)).length = 1 := by decide
theorem nm_cps (ns : List Int) {x : Int} (h : x ∈ irange 0 3) : (nmF ns x).cps.toList = [ltF ns x, 48 + x.toNat] := by
  unfold nmF
  rw [cps_app, (fig_codes x h).1]; rfl
theorem nm_var (ns : List Int) {x : Int} (h : x ∈ irange 0 3) : IsVar (nmF ns x) := by
  have h' := mem_irange.mp h
  refine .inr ⟨_, _, ltF_mem ns x, ?_, nm_cps ns h⟩
  simp [FG]; omega
theorem nm_inj (ns : List Int) {x y : Int} (h : x ∈ irange 0 3) (h2 : y ∈ irange 0 3) (e : nmF ns x = nmF ns y) : x = y := by
  have := congrArg (fun s : Str => s.cps.toList) e
  simp only [nm_cps ns h, nm_cps ns h2] at this
  have a := mem_irange.mp h
  have b := mem_irange.mp h2
  injection this with _ q
  injection q with q _
  omega
def NM (ns : List Int) : List Str := [nmF ns 0, nmF ns 1, nmF ns 2]
theorem ir3 : irange 0 3 = [0, 1, 2] := by decide
theorem sub3 (a b c : Str) : subT [("X", a), ("Y", b), ("Z", c)] "X" = a ∧ subT [("X", a), ("Y", b), ("Z", c)] "Y" = b ∧ subT [("X", a), ("Y", b), ("Z", c)] "Z" = c := by
  have h1 : ((Str.ofString "Y") == (Str.ofString "X")) = false := by decide
  have h2 : ((Str.ofString "Z") == (Str.ofString "X")) = false := by decide
  have h3 : ((Str.ofString "Z") == (Str.ofString "Y")) = false := by decide
  simp [subT, List.lookup, h1, h2, h3]
theorem nm_ren {ns : List Int} {pu : Bool} {r : Ru} (h : DrawnRule ns pu r) : Ren (subT (XYZ.zip (NM ns))) (termsF r) := by
  have e : XYZ.zip (NM ns) = [(("X" : Str), nmF ns 0), (("Y" : Str), nmF ns 1), (("Z" : Str), nmF ns 2)] := rfl
  obtain ⟨s1, s2, s3⟩ := sub3 (nmF ns 0) (nmF ns 1) (nmF ns 2)
  have m0 : (0 : Int) ∈ irange 0 3 := by decide
  have m1 : (1 : Int) ∈ irange 0 3 := by decide
  have m2 : (2 : Int) ∈ irange 0 3 := by decide
  rw [e]
  refine xyz_ren h ?_ ?_ ?_
  · intro t ht
    have : t ∈ XYZ := by simpa using ht
    exact XYZ_var this
  · intro t ht
    rcases List.mem_cons.mp ht with rfl | ht
    · rw [s1]; exact nm_var ns m0
    rcases List.mem_cons.mp ht with rfl | ht
    · rw [s2]; exact nm_var ns m1
    · rw [List.mem_singleton.mp ht, s3]; exact nm_var ns m2
  · have k : ∀ t ∈ XYZ, ∃ i ∈ irange 0 3, subT [("X", nmF ns 0), ("Y", nmF ns 1), ("Z", nmF ns 2)] t = nmF ns i ∧ (i = 0 → t = "X") ∧ (i = 1 → t = "Y") ∧ (i = 2 → t = "Z") := by
      intro t ht
      rcases List.mem_cons.mp ht with rfl | ht
      · exact ⟨0, m0, s1, fun _ => rfl, fun z => by omega, fun z => by omega⟩
      rcases List.mem_cons.mp ht with rfl | ht
      · exact ⟨1, m1, s2, fun z => by omega, fun _ => rfl, fun z => by omega⟩
      · have := List.mem_singleton.mp ht
        subst this
        exact ⟨2, m2, s3, fun z => by omega, fun z => by omega, fun _ => rfl⟩
    intro t ht u hu e
    obtain ⟨i, hi, e1, a1, a2, a3⟩ := k t ht
    obtain ⟨j, hj, e2, b1, b2, b3⟩ := k u hu
    rw [e1, e2] at e
    have := nm_inj ns hi hj e
    subst this
    have hi := mem_irange.mp hi
    have : i = 0 ∨ i = 1 ∨ i = 2 := by omega
    rcases this with z | z | z
    · rw [a1 z, b1 z]
    · rw [a2 z, b2 z]
    · rw [a3 z, b3 z]
theorem sub_swap (a b t : Str) : subT [(a, b), (b, a)] t = if t = a then b else if t = b then a else t := by
  by_cases h1 : t = a
  · subst h1; simp [subT, List.lookup]
  · have e1 : (t == a) = false := beq_eq_false_iff_ne.mpr h1
    by_cases h2 : t = b
    · subst h2; simp [subT, List.lookup, e1, h1]
    · have e2 : (t == b) = false := beq_eq_false_iff_ne.mpr h2
      simp [subT, List.lookup, e1, e2, h1, h2]
theorem sub_inj {a b t u : Str} (e : subT [(a, b), (b, a)] t = subT [(a, b), (b, a)] u) : t = u := by
  rw [sub_swap, sub_swap] at e
  by_cases h1 : t = a <;> by_cases h2 : u = a <;> by_cases h3 : t = b <;> by_cases h4 : u = b <;> simp_all
theorem ac_ren (S : List Str) : Ren (subT [("A", "C"), ("C", "A")]) S := by
  have ha : IsVar "A" := (varB_iff _).mp (by decide)
  have hc : IsVar "C" := (varB_iff _).mp (by decide)
  refine ren_table (fun t _ hn => lookup_none fun z => ?_) (fun t _ hv => ?_) (fun t _ u _ _ _ e => sub_inj e)
  · have : t = "A" ∨ t = "C" := by simpa using z
    rcases this with rfl | rfl
    · exact hn ha
    · exact hn hc
  · rw [sub_swap]
    split
    · exact hc
    · split
      · exact ha
      · exact hv
end Lw

namespace Lw
open PySem PySem.W L2 Pv
theorem is_rule_ok (r : Ru) (h : IsRule r) : d_is_rule [ruD r] = .ok (.bool true) := by rw [is_rule_spec _ (rule_tame h.toWfRule), rule_typed.mpr h]
def lawI (ns : List Int) (ρ : Pv.Env) : Prop := ∃ j1 j2 j3 j4 j5 j6 j7 j8 j9 : Sl, ρ = [.bo (scr ns), j1, j2, j3, j4, j5, j6, j7, j8, j9]
theorem gIsNot_tt : gIsNot (.bool true) (.bool true) = .ok false := rfl
theorem disp2 (a b : Str) (h : a ≠ b) {ρ : Pv.Env} : mDisp [(mC (.str a), mC (.str b)), (mC (.str b), mC (.str a))] ρ = .ok (dcD [(a, b), (b, a)]) := by
  have e : ∀ (es : List (Key × PyData)), (R.ok es).bind (fun es => R.ok (PyData.dict (es.foldl (fun acc (p : Key × PyData) => dPutK acc p.1 p.2) []))) = .ok (.dict (es.foldl (fun acc (p : Key × PyData) => dPutK acc p.1 p.2) [])) := fun _ => rfl
  show (R.ok [(Sum.inr a, PyData.str b), (Sum.inr b, PyData.str a)]).bind _ = _
  rw [e]
  refine congrArg (fun m => R.ok (PyData.dict m)) ?_
  show dPutK (dPutK (dcL []) (.inr a) (.str b)) (.inr b) (.str a) = _
  rw [put_new [] a b (by simp), put_new _ b a (by simpa using fun e => h e.symm)]; rfl
theorem pure_law (ns : List Int) (h : ns.length ≤ 63) : d_law [.list (ns.map .int)] = .ok (.bool true) := by
  rw [eq_ok]
  show OkR (endD (m_law [.bo (scr ns), .un, .un, .un, .un, .un, .un, .un, .un, .un])) _ _
  rw [okR_end, m_law]
  obtain ⟨rs, er, _, hd⟩ := rules_spec ns
  refine okR_seq (lawI ns) ?_ ?_
  · have hi : mItems (mCall d_law_rules [mVarB 0]) [.bo (scr ns), .un, .un, .un, .un, .un, .un, .un, .un, .un] = .ok (rs.map ruD) := by simp [er]
    rw [mFor_e, hi, bind_okE]
    refine okR_forE (fun _ ρ => lawI ns ρ) ⟨_, _, _, _, _, _, _, _, _, rfl⟩ ?_ (fun ρ h => ⟨ρ, rfl, h⟩)
    rintro r rest _ hr ⟨j1, j2, j3, j4, j5, j6, j7, j8, j9, rfl⟩
    have hD := hd r hr
    have hR := drawn_rule hD
    have hP := plain_is_ren hD LL_nodup
    have h3 := drawn_vars hD
    have hL := LL_len
    have hpl := plain_spec r hR.toWfRule
    have hRp : IsRule (plainR LL r) := rule_map hR hP
    have hpp : plainR LL (plainR LL r) = plainR LL r := plain_ren (by omega) hP
    have hplp := plain_spec _ hRp.toWfRule
    rw [hpp] at hplp
    have hN := nm_ren hD
    have hNr := renamed_spec r (XYZ.zip (NM ns))
    have hRN := rule_map hR hN
    have hplN := plain_spec _ hRN.toWfRule
    rw [plain_ren (by omega) hN] at hplN
    have hS := swap_ren hD
    have hSr := renamed_spec r [("X", "Y"), ("Y", "X")]
    have hRS := rule_map hR hS
    have hplS := plain_spec _ hRS.toWfRule
    rw [plain_ren (by omega) hS] at hplS
    have hA := ac_ren (termsF (plainR LL r))
    have hAr := renamed_spec (plainR LL r) [("A", "C"), ("C", "A")]
    have hRA := rule_map hRp hA
    have hplA := plain_spec _ hRA.toWfRule
    have hlenp : (varsF (plainR LL r)).length ≤ LL.length := by
      have : varsF (plainR LL r) = (varsF r).map (subT ((varsF r).zip LL)) := vars_mapR hP
      rw [this, List.length_map]; omega
    rw [plain_ren hlenp hA, hpp] at hplA
    have hk1 := kinds_of_spec r (by have := hR.len; omega)
    have hk2 := kinds_of_spec (plainR LL r) (by have := hRp.len; omega)
    have hkk : kindsOf (plainR LL r) = kindsOf r := kindsOf_mapR _ r
    rw [hkk] at hk2
    have hke := gEq_same (kindsOf_tame r hR.toWfRule) (by decide)
    have hpe := gEq_rule _ hRp.toWfRule
    have hir := is_rule_ok _ hRp
    have ht1 := law_terms_spec r hR.toWfRule
    have ht2 := law_terms_spec (plainR LL r) hRp.toWfRule
    have htt : termsF (plainR LL r) = (termsF r).map (subT ((varsF r).zip LL)) := terms_mapR _ r
    rw [htt] at ht2
    rw [mtName_e, bind_okE]
    refine okR_seq (fun ρ => ρ = [.bo (scr ns), .fr (ruD r), .fr (ruD (plainR LL r)), j3, j4, j5, j6, j7, j8, j9]) (by simp [hpl]) ?_
    rintro _ rfl
    refine okR_seq (fun ρ => ρ = [.bo (scr ns), .fr (ruD r), .fr (ruD (plainR LL r)), j3, j4, j5, j6, j7, j8, j9]) (by simp [hir, gIsNot_tt, hk1, hk2, hke]) ?_
    rintro _ rfl
    refine okR_seq (fun ρ => ρ = [.bo (scr ns), .fr (ruD r), .fr (ruD (plainR LL r)), .ow (dcD []), j4, j5, j6, j7, j8, j9]) (by simp) ?_
    rintro _ rfl
    refine okR_seq (fun ρ => zInv ns r j6 j7 j9 [] ρ) ?_ ?_
    · have hz : mZip (mCall d_law_terms [mVarB 1]) (mCall d_law_terms [mVarB 2]) [.bo (scr ns), .fr (ruD r), .fr (ruD (plainR LL r)), .ow (dcD []), j4, j5, j6, j7, j8, j9] = .ok ((termsF r).map fun t => .tuple [.str t, .str (subT ((varsF r).zip LL) t)]) := by
        rw [← pair_map]
        simp [ht1, ht2]
      rw [mFor_e, hz, bind_okE]
      refine okR_forE (enc := fun t => .tuple [.str t, .str (subT ((varsF r).zip LL) t)]) (fun rest ρ => zInv ns r j6 j7 j9 rest ρ) ⟨[], j4, j5, j8, rfl, rfl, List.nodup_nil, fun _ h => nomatch h⟩ ?_ (fun ρ h => ⟨ρ, rfl, h⟩)
      intro t rest ρ ht hI
      exact zip_step h3 (drawn_var hD ht) hI fun ρ' h' => h'
    rintro _ ⟨vs, j4, j5, j8, rfl, _⟩
    refine okR_seq (fun ρ => ρ = [.bo (scr ns), .fr (ruD r), .fr (ruD (plainR LL r)), .ow (dcD (vs.zip LL)), j4, j5, .fr (.str ⟨GR.toArray⟩), j7, j8, j9]) (by simp [GR_eq]) ?_
    rintro _ rfl
    refine okR_seq (fun ρ => ρ = [.bo (scr ns), .fr (ruD r), .fr (ruD (plainR LL r)), .ow (dcD (vs.zip LL)), j4, j5, .fr (.str ⟨GR.toArray⟩), .fr (.list (strsD (NM ns))), j8, j9]) ?_ ?_
    · have sl := sizeLine_ge
      have g26 : (⟨GR.toArray⟩ : Str).length = 26 := rfl
      simp [g26]
      refine okR_comp (fun x => .str (nmF ns x)) (fun x hx => ?_) ?_
      · have hx' := mem_irange.mp hx
        have f : (Str.ofString x.repr).length = 1 := (fig_codes x hx).2
        have lg : x.natAbs.log2 < 1920 := by
          have : x.natAbs = 0 ∨ x.natAbs = 1 ∨ x.natAbs = 2 := by omega
          rcases this with e | e | e <;> rw [e] <;> decide
        have o1 : ∀ c, (⟨#[c]⟩ : Str).length = 1 := fun _ => rfl
        simp [cell_3, mix_spec, ltF_at, g26, lg, o1, f, nmF]
        omega
      · simp [ir3, NM]
    rintro _ rfl
    refine okR_seq (fun ρ => ρ = [.bo (scr ns), .fr (ruD r), .fr (ruD (plainR LL r)), .ow (dcD (vs.zip LL)), j4, j5, .fr (.str ⟨GR.toArray⟩), .fr (.list (strsD (NM ns))), j8, j9]) ?_ ?_
    · have hdz := dictZip_vs (vs := XYZ) (L := NM ns) (by decide)
      have hdz2 : mDictZip (mLst [mC (.str "X"), mC (.str "Y"), mC (.str "Z")]) (mVarB 7) [.bo (scr ns), .fr (ruD r), .fr (ruD (plainR LL r)), .ow (dcD (vs.zip LL)), j4, j5, .fr (.str ⟨GR.toArray⟩), .fr (.list (strsD (NM ns))), j8, j9] = .ok (dcD (XYZ.zip (NM ns))) := by
        have ek := eKeys_strs XYZ
        simp only [mDictZip_e, mLst_e, mAll_cons_e, mAll_nil_e, mC_e, bind_okE, mVarB_e]
        show (match eKeys (strsD XYZ) with | some ks => R.ok (PyData.dict ((ks.zip (strsD (NM ns))).foldl (fun acc (p : Key × PyData) => dPutK acc p.1 p.2) [])) | none => R.st) = _
        rw [ek]
        exact congrArg (fun m => R.ok (PyData.dict m)) hdz
      simp [-mDictZip_e, hdz2, hNr, hplN, hplp, hpe]
    rintro _ rfl
    have hd1 := fun ρ => disp2 "X" "Y" (by decide) (ρ := ρ)
    have hd2 := fun ρ => disp2 "A" "C" (by decide) (ρ := ρ)
    simp [hd1, hd2, hSr, hAr, hplS, hplA, hpe]
    exact ⟨_, _, _, _, _, _, _, _, _, rfl⟩
  · rintro _ ⟨j1, j2, j3, j4, j5, j6, j7, j8, j9, rfl⟩
    simp
end Lw

namespace Lw
open PySem PySem.Spec PyProof.Rows L2 Pv

def topS (i : Nat) : Stmt := PySem.Challenge.pw_rulehall_k22_plain_rules.main.body.getD i (.Pass ⟨0, 0, 0, 0⟩)
abbrev s_law_mix : Stmt := topS 19
theorem sc_law_mix : FnScope ["_law_cell_here", "_law_prime", "_law_many"] ["_law_cell_here", "_law_prime", "_law_many"] (defScope s_law_mix) := ⟨rfl, rfl, rfl, by decide +kernel, rfl, by decide +kernel, by decide +kernel⟩
abbrev s_law_cell : Stmt := topS 18
theorem sc_law_cell : FnScope ["_law_script", "_law_k"] ["_law_script", "_law_k"] (defScope s_law_cell) := ⟨rfl, rfl, rfl, by decide +kernel, rfl, by decide +kernel, by decide +kernel⟩
abbrev s_law_word : Stmt := topS 20
theorem sc_law_word : FnScope ["_law_cell_here", "_law_k", "_law_firsts", "_law_letters", "_law_tail", "_law_found", "_law_j"] ["_law_cell_here", "_law_k", "_law_firsts"] (defScope s_law_word) := ⟨rfl, rfl, rfl, by decide +kernel, rfl, by decide +kernel, by decide +kernel⟩
abbrev s_law_words : Stmt := topS 22
theorem sc_law_words : FnScope ["_law_script", "_law_many", "_law_k"] ["_law_script"] (defScope s_law_words) := ⟨rfl, rfl, rfl, by decide +kernel, rfl, by decide +kernel, by decide +kernel⟩
abbrev s_law_kinds : Stmt := topS 21
theorem sc_law_kinds : FnScope ["_law_script", "_law_k"] ["_law_script"] (defScope s_law_kinds) := ⟨rfl, rfl, rfl, by decide +kernel, rfl, by decide +kernel, by decide +kernel⟩
abbrev s_law_size : Stmt := topS 23
theorem sc_law_size : FnScope ["_law_script", "_law_k"] ["_law_script", "_law_k"] (defScope s_law_size) := ⟨rfl, rfl, rfl, by decide +kernel, rfl, by decide +kernel, by decide +kernel⟩
abbrev s_law_some : Stmt := topS 24
theorem sc_law_some : FnScope ["_law_cell_here", "_law_things"] ["_law_cell_here", "_law_things"] (defScope s_law_some) := ⟨rfl, rfl, rfl, by decide +kernel, rfl, by decide +kernel, by decide +kernel⟩
abbrev s_law_body : Stmt := topS 25
theorem sc_law_body : FnScope ["_law_script", "_law_cell_here", "_law_head", "_law_free", "_law_words_here", "_law_kinds_here", "_law_found", "_law_k", "_law_kind", "_law_terms_here", "_law_j"] ["_law_script", "_law_cell_here", "_law_head", "_law_free"] (defScope s_law_body) := ⟨rfl, rfl, rfl, by decide +kernel, rfl, by decide +kernel, by decide +kernel⟩
abbrev s_law_bound : Stmt := topS 26
theorem sc_law_bound : FnScope ["_law_body_here", "_law_found", "_law_literal", "_law_term"] ["_law_body_here"] (defScope s_law_bound) := ⟨rfl, rfl, rfl, by decide +kernel, rfl, by decide +kernel, by decide +kernel⟩
abbrev s_law_rule : Stmt := topS 27
theorem sc_law_rule : FnScope ["_law_script", "_law_cell_here", "_law_free", "_law_head", "_law_body_here", "_law_terms_here", "_law_some_here", "_law_kind", "_law_j"] ["_law_script", "_law_cell_here", "_law_free"] (defScope s_law_rule) := ⟨rfl, rfl, rfl, by decide +kernel, rfl, by decide +kernel, by decide +kernel⟩
abbrev s_law_rules : Stmt := topS 28
theorem sc_law_rules : FnScope ["_law_script", "_law_most", "_law_free", "_law_cell_here"] ["_law_script"] (defScope s_law_rules) := ⟨rfl, rfl, rfl, by decide +kernel, rfl, by decide +kernel, by decide +kernel⟩
abbrev s_atoms_of : Stmt := topS 9
theorem sc_atoms_of : FnScope ["rule", "literal"] ["rule"] (defScope s_atoms_of) := ⟨rfl, rfl, rfl, by decide +kernel, rfl, by decide +kernel, by decide +kernel⟩
abbrev s_is_variable : Stmt := topS 6
theorem sc_is_variable : FnScope ["thing"] ["thing"] (defScope s_is_variable) := ⟨rfl, rfl, rfl, by decide +kernel, rfl, by decide +kernel, by decide +kernel⟩
abbrev s_variables_of : Stmt := topS 10
theorem sc_variables_of : FnScope ["rule", "found", "atom", "one"] ["rule"] (defScope s_variables_of) := ⟨rfl, rfl, rfl, by decide +kernel, rfl, by decide +kernel, by decide +kernel⟩
abbrev s_with_terms : Stmt := topS 13
theorem sc_with_terms : FnScope ["atom", "turn", "one"] ["atom", "turn"] (defScope s_with_terms) := ⟨rfl, rfl, rfl, by decide +kernel, rfl, by decide +kernel, by decide +kernel⟩
abbrev s_rule_with : Stmt := topS 14
theorem sc_rule_with : FnScope ["rule", "turn", "kind", "atom"] ["rule", "turn"] (defScope s_rule_with) := ⟨rfl, rfl, rfl, by decide +kernel, rfl, by decide +kernel, by decide +kernel⟩
abbrev s_plain_names : Stmt := topS 15
theorem sc_plain_names : FnScope ["many", "found", "figure", "one"] ["many"] (defScope s_plain_names) := ⟨rfl, rfl, rfl, by decide +kernel, rfl, by decide +kernel, by decide +kernel⟩
abbrev s_plain : Stmt := topS 16
theorem sc_plain : FnScope ["rule", "some"] ["rule"] (defScope s_plain) := ⟨rfl, rfl, rfl, by decide +kernel, rfl, by decide +kernel, by decide +kernel⟩
abbrev s_law_kinds_of : Stmt := topS 32
theorem sc_law_kinds_of : FnScope ["_law_rule_here", "_law_one"] ["_law_rule_here"] (defScope s_law_kinds_of) := ⟨rfl, rfl, rfl, by decide +kernel, rfl, by decide +kernel, by decide +kernel⟩
abbrev s_is_word : Stmt := topS 5
theorem sc_is_word : FnScope ["thing", "sign"] ["thing"] (defScope s_is_word) := ⟨rfl, rfl, rfl, by decide +kernel, rfl, by decide +kernel, by decide +kernel⟩
abbrev s_is_atom : Stmt := topS 7
theorem sc_is_atom : FnScope ["thing", "one"] ["thing"] (defScope s_is_atom) := ⟨rfl, rfl, rfl, by decide +kernel, rfl, by decide +kernel, by decide +kernel⟩
abbrev s_is_literal : Stmt := topS 8
theorem sc_is_literal : FnScope ["thing"] ["thing"] (defScope s_is_literal) := ⟨rfl, rfl, rfl, by decide +kernel, rfl, by decide +kernel, by decide +kernel⟩
abbrev s_is_rule : Stmt := topS 11
theorem sc_is_rule : FnScope ["thing", "bound", "one"] ["thing"] (defScope s_is_rule) := ⟨rfl, rfl, rfl, by decide +kernel, rfl, by decide +kernel, by decide +kernel⟩
abbrev s_law_terms : Stmt := topS 31
theorem sc_law_terms : FnScope ["_law_rule_here", "_law_found", "_law_literal"] ["_law_rule_here"] (defScope s_law_terms) := ⟨rfl, rfl, rfl, by decide +kernel, rfl, by decide +kernel, by decide +kernel⟩
abbrev s_law_renamed : Stmt := topS 33
theorem sc_law_renamed : FnScope ["_law_rule_here", "_law_turn", "_law_body_here", "_law_one", "_law_term"] ["_law_rule_here", "_law_turn"] (defScope s_law_renamed) := ⟨rfl, rfl, rfl, by decide +kernel, rfl, by decide +kernel, by decide +kernel⟩
abbrev s_law : Stmt := topS 34
theorem sc_law : FnScope ["_law_script", "_law_rule_here", "_law_found", "_law_turn", "_law_one", "_law_other", "_law_letters", "_law_names", "_law_due", "_law_k"] ["_law_script"] (defScope s_law) := ⟨rfl, rfl, rfl, by decide +kernel, rfl, by decide +kernel, by decide +kernel⟩
structure Txt (K : PySem.W.Frag) (mg : Str → Option Value) : Prop where
  d_law_mix : Df K mg "_law_mix" s_law_mix ["_law_cell_here", "_law_prime", "_law_many"]
  d_law_cell : Df K mg "_law_cell" s_law_cell ["_law_script", "_law_k"]
  d_law_word : Df K mg "_law_word" s_law_word ["_law_cell_here", "_law_k", "_law_firsts"]
  d_law_words : Df K mg "_law_words" s_law_words ["_law_script"]
  d_law_kinds : Df K mg "_law_kinds" s_law_kinds ["_law_script"]
  d_law_size : Df K mg "_law_size" s_law_size ["_law_script", "_law_k"]
  d_law_some : Df K mg "_law_some" s_law_some ["_law_cell_here", "_law_things"]
  d_law_body : Df K mg "_law_body" s_law_body ["_law_script", "_law_cell_here", "_law_head", "_law_free"]
  d_law_bound : Df K mg "_law_bound" s_law_bound ["_law_body_here"]
  d_law_rule : Df K mg "_law_rule" s_law_rule ["_law_script", "_law_cell_here", "_law_free"]
  d_law_rules : Df K mg "_law_rules" s_law_rules ["_law_script"]
  d_atoms_of : Df K mg "atoms_of" s_atoms_of ["rule"]
  d_is_variable : Df K mg "is_variable" s_is_variable ["thing"]
  d_variables_of : Df K mg "variables_of" s_variables_of ["rule"]
  d_with_terms : Df K mg "with_terms" s_with_terms ["atom", "turn"]
  d_rule_with : Df K mg "rule_with" s_rule_with ["rule", "turn"]
  d_plain_names : Df K mg "plain_names" s_plain_names ["many"]
  d_plain : Df K mg "plain" s_plain ["rule"]
  d_law_kinds_of : Df K mg "_law_kinds_of" s_law_kinds_of ["_law_rule_here"]
  d_is_word : Df K mg "is_word" s_is_word ["thing"]
  d_is_atom : Df K mg "is_atom" s_is_atom ["thing"]
  d_is_literal : Df K mg "is_literal" s_is_literal ["thing"]
  d_is_rule : Df K mg "is_rule" s_is_rule ["thing"]
  d_law_terms : Df K mg "_law_terms" s_law_terms ["_law_rule_here"]
  d_law_renamed : Df K mg "_law_renamed" s_law_renamed ["_law_rule_here", "_law_turn"]
  d_law : Df K mg "law" s_law ["_law_script"]
  b_all : mg "all" = none
  b_dict : mg "dict" = none
  b_int : mg "int" = none
  b_isinstance : mg "isinstance" = none
  b_len : mg "len" = none
  b_list : mg "list" = none
  b_range : mg "range" = none
  b_str : mg "str" = none
  b_tuple : mg "tuple" = none
  b_zip : mg "zip" = none
  g_KEPT : ∃ a, mg "KEPT" = some (.ref a) ∧ ∀ (B : Bs) (F : Hp), B.K = K → Is B F (.ref a) c_KEPT
  g_SMALL : ∃ u, mg "SMALL" = some u ∧ RelV (.str "abcdefghijklmnopqrstuvwxyz") u
  g_GREAT : ∃ u, mg "GREAT" = some u ∧ RelV (.str "ABCDEFGHIJKLMNOPQRSTUVWXYZ") u
  g_FIGURES : ∃ u, mg "FIGURES" = some u ∧ RelV (.str "0123456789") u
section
variable {P : Program} {w : World} {K : PySem.W.Frag} {mg : Str → Option Value} {base : Heap} {nm : Str → Option Addr}
theorem ok_law_mix (T : Txt K mg) : Fn P w K mg base CX0 1 "_law_mix" (spD ⟨P, w, K⟩ nm [false, false, false] d_law_mix) :=
  fn_d T.d_law_mix sc_law_mix rfl fun F0 H E cdv A outer s f hr => (ss_one (s_ret (e_op op_mod sem_mod (b_of (e_op op_mod sem_mod (b_of (e_op op_mulA sem_rep (evB 0) (b_of (ei)))) (evB 1))) (evB 2))))
theorem ok_law_cell (T : Txt K mg) : Fn P w K mg base CX0 1 "_law_cell" (spD ⟨P, w, K⟩ nm [false, false] d_law_cell) :=
  fn_d T.d_law_cell sc_law_cell rfl fun F0 H E cdv A outer s f hr => (ss_cons (s_if (t_cmp (opR_or op_lt (op_ltD hr.units)) sem_lt (evB 1) (b_of (e_cb cr_len sem_len T.b_len (by decide +kernel) (evB 0))) (nomark _))
    (ss_one (s_ret (e_ix on0 (evB 0) (evB 1))))
    (ss_nil))
    (ss_one (s_ret (ei))))
theorem ok_law_word (T : Txt K mg) : Fn P w K mg base CX0 2 "_law_word" (spD ⟨P, w, K⟩ nm [false, false, false] d_law_word) :=
  fn_d T.d_law_word sc_law_word rfl fun F0 H E cdv A outer s f hr => (ss_cons (s_set 3 (M := .f) (sc_law_word).nd np0 (estr))
    (ss_cons (s_set 4 (M := .f) (sc_law_word).nd np0 (e_join on0 (b_of (e_lc [("_law_j", 6)] rfl (sc_law_word).nd (i_rng1 T.b_range (e_call (ok_law_mix T) hr (by decide) pass0 (a_b (b_of (e_op op_addA sem_add (evB 0) (evB 1))) (a_b (b_of (ei)) (a_b (b_of (ei)) a_nil))))) (blkOk_by (by kernel_rfl)) (fun _ _ _ _ _ => g_name 6 (sc_law_word).nd np0) (fun _ _ _ _ _ => ts_nil) (fun _ _ _ _ _ => e_ix on0 (evB 3) (b_of (e_call (ok_law_mix T) hr (by decide) pass0 (a_b (b_of (e_op op_addA sem_add (b_of (e_op op_addA sem_add (evB 0) (b_of (e_op op_mulA sem_rep (b_of (e_op op_mulA sem_rep (b_of (ei)) (evB 6))) (evB 6))))) (evB 1))) (a_b (b_of (ei)) (a_b (b_of (ei)) a_nil)))))) nv0))))
    (ss_cons (s_set 5 (M := .f) (sc_law_word).nd np0 (e_op op_addA sem_add (b_of (e_ix on0 (evB 2) (evB 1))) (evB 4)))
    (ss_cons (s_if (t_cmp (op_inA hr.units) sem_inA (evB 5) (b_of (e_lst (n := 5) (a_f (estr) (a_f (estr) (a_f (estr) (a_f (estr) (a_f (estr) a_nil))))))) rfl)
    (ss_one (s_ret (e_op op_addA sem_add (b_of (e_ix on0 (evB 2) (evB 1))) (b_of (estr)))))
    (ss_nil))
    (ss_one (s_ret (ev 5)))))))
theorem ok_law_words (T : Txt K mg) : Fn P w K mg base CX0 3 "_law_words" (spD ⟨P, w, K⟩ nm [false] d_law_words) :=
  fn_d T.d_law_words sc_law_words rfl fun F0 H E cdv A outer s f hr => (ss_cons (s_set 1 (M := .f) (sc_law_words).nd np0 (ei))
    (ss_cons (s_if (PW.pt (w_or (t_cmp op_gt sem_gt (b_of (e_cb cr_len sem_len T.b_len (by decide +kernel) (evB 0))) (b_of (ei)) (nomark _)) (w_or1 (t_cmp (op_eqP hr.units) sem_eq (b_of (e_call (ok_law_mix T) hr (by decide) pass0 (a_b (b_of (e_call (ok_law_cell T) hr (by decide) pass0 (a_b (evB 0) (a_b (b_of (ei)) a_nil)))) (a_b (b_of (ei)) (a_b (b_of (ei)) a_nil))))) (b_of (ei)) (nomark _)))))
    (ss_one (s_set 1 (M := .f) (sc_law_words).nd np0 (ei)))
    (ss_nil))
    (ss_one (s_ret (f_of (e_lc [("_law_k", 2)] rfl (sc_law_words).nd (i_rng1 T.b_range (ev 1)) (blkOk_by (by kernel_rfl)) (fun _ _ _ _ _ => g_name 2 (sc_law_words).nd np0) (fun _ _ _ _ _ => ts_nil) (fun _ _ _ _ _ => e_call (ok_law_word T) hr (by decide) pass0 (a_b (b_of (e_call (ok_law_cell T) hr (by decide) pass0 (a_b (evB 0) (a_b (b_of (ei)) a_nil)))) (a_b (evB 2) (a_b (b_of (estr)) a_nil)))) nv0))))))
theorem ok_law_kinds (T : Txt K mg) : Fn P w K mg base CX0 3 "_law_kinds" (spD ⟨P, w, K⟩ nm [false] d_law_kinds) :=
  fn_d T.d_law_kinds sc_law_kinds rfl fun F0 H E cdv A outer s f hr => (ss_one (s_ret (f_of (e_lc [("_law_k", 1)] rfl (sc_law_kinds).nd (i_rng1 T.b_range (ei)) (blkOk_by (by kernel_rfl)) (fun _ _ _ _ _ => g_name 1 (sc_law_kinds).nd np0) (fun _ _ _ _ _ => ts_nil) (fun _ _ _ _ _ => e_call (ok_law_word T) hr (by decide) pass0 (a_b (b_of (e_call (ok_law_cell T) hr (by decide) pass0 (a_b (evB 0) (a_b (b_of (ei)) a_nil)))) (a_b (evB 1) (a_b (b_of (estr)) a_nil)))) nv0))))
theorem ok_law_size (T : Txt K mg) : Fn P w K mg base CX0 2 "_law_size" (spD ⟨P, w, K⟩ nm [false, false] d_law_size) :=
  fn_d T.d_law_size sc_law_size rfl fun F0 H E cdv A outer s f hr => (ss_one (s_ret (e_op op_addA sem_add (b_of (e_ix on0 (b_of (e_lst (n := 6) (a_f (ei) (a_f (ei) (a_f (ei) (a_f (ei) (a_f (ei) (a_f (ei) a_nil)))))))) (evB 1))) (b_of (e_ct call_int1 sem_int T.b_int (by decide +kernel) (b_of (e_cmp (op_eqP hr.units) sem_eq (b_of (e_call (ok_law_mix T) hr (by decide) pass0 (a_b (b_of (e_op op_addA sem_add (b_of (e_call (ok_law_cell T) hr (by decide) pass0 (a_b (evB 0) (a_b (b_of (ei)) a_nil)))) (evB 1))) (a_b (b_of (ei)) (a_b (b_of (ei)) a_nil))))) (b_of (ei)) (nomark _))))))))
theorem ok_law_some (T : Txt K mg) : Fn P w K mg base CX0 2 "_law_some" (spD ⟨P, w, K⟩ nm [false, false] d_law_some) :=
  fn_d T.d_law_some sc_law_some rfl fun F0 H E cdv A outer s f hr => (ss_one (s_ret (e_ix on0 (evB 1) (b_of (e_call (ok_law_mix T) hr (by decide) pass0 (a_b (evB 0) (a_b (b_of (ei)) (a_b (b_of (e_cb cr_len sem_len T.b_len (by decide +kernel) (evB 1))) a_nil))))))))
theorem ok_law_body (T : Txt K mg) : Fn P w K mg base CX0 4 "_law_body" (spO ⟨P, w, K⟩ nm [false, false, false, false] d_law_body) :=
  fn_o T.d_law_body sc_law_body rfl fun F0 H E cdv A outer s f hr => (ss_cons (s_set 4 (M := .f) (sc_law_body).nd np0 (e_call (ok_law_words T) hr (by decide) pass0 (a_b (evB 0) a_nil)))
    (ss_cons (s_set 5 (M := .f) (sc_law_body).nd np0 (e_call (ok_law_kinds T) hr (by decide) pass0 (a_b (evB 0) a_nil)))
    (ss_cons (s_set 6 (M := .o) (sc_law_body).nd np0 (e_lst (n := 0) a_nil))
    (ss_cons (s_for (vs := [7]) PassesOwn.never rfl (i_rng1 T.b_range (e_call (ok_law_mix T) hr (by decide) pass0 (a_b (evB 1) (a_b (b_of (ei)) (a_b (b_of (ei)) a_nil))))) (g_name 7 (sc_law_body).nd np0)
    (ss_cons (s_set 8 (M := .f) (sc_law_body).nd np0 (e_call (ok_law_mix T) hr (by decide) pass0 (a_b (b_of (e_op op_addA sem_add (evB 1) (b_of (e_op op_mulA sem_rep (b_of (ei)) (evB 7))))) (a_b (b_of (ei)) (a_b (b_of (e_op op_addA sem_add (evB 2) (b_of (ei)))) a_nil)))))
    (ss_cons (s_if (t_val (evB 3) (hB := on0))
    (ss_one (s_set 8 (M := .f) (sc_law_body).nd np0 (e_call (ok_law_mix T) hr (by decide) pass0 (a_b (b_of (e_op op_addA sem_add (evB 1) (b_of (e_op op_mulA sem_rep (b_of (ei)) (evB 7))))) (a_b (b_of (ei)) (a_b (b_of (ei)) a_nil))))))
    (ss_nil))
    (ss_cons (s_if (PW.pt (w_and (t_cmp (op_eqP hr.units) sem_eq (evB 7) (b_of (ei)) (nomark _)) (w_and (t_cmp (op_eqP hr.units) sem_eq (evB 8) (evB 2) (nomark _)) (w_and1 (t_cmp (op_eqP hr.units) sem_eq (b_of (e_call (ok_law_mix T) hr (by decide) pass0 (a_b (evB 1) (a_b (b_of (ei)) (a_b (b_of (ei)) a_nil))))) (b_of (ei)) (nomark _))))))
    (ss_one (s_set 8 (M := .f) (sc_law_body).nd np0 (ei)))
    (ss_nil))
    (ss_cons (s_set 9 (M := .o) (sc_law_body).nd np0 (e_lst (n := 0) a_nil))
    (ss_cons (s_for (vs := [10]) PassesOwn.never rfl (i_rng1 T.b_range (e_call (ok_law_size T) hr (by decide) pass0 (a_b (evB 0) (a_b (evB 8) a_nil)))) (g_name 10 (sc_law_body).nd np0)
    (ss_one (s_app 9 (by exact e_call (ok_law_some T) hr (by decide) pass0 (a_b (b_of (e_op op_addA sem_add (b_of (e_op op_addA sem_add (evB 1) (b_of (e_op op_mulA sem_rep (b_of (ei)) (evB 7))))) (b_of (e_op op_mulA sem_rep (b_of (ei)) (evB 10))))) (a_b (b_of (e_lst (n := 7) (a_f (estr) (a_f (estr) (a_f (estr) (a_f (estr) (a_f (estr) (a_f (e_ix on0 (evB 4) (b_of (ei))) (a_f (e_ix on0 (evB 4) (b_of (ei))) a_nil))))))))) a_nil))))))
    (ss_one (s_app 6 (by exact e_tup (n := 2) (a_f (estr) (a_f (e_tup (n := 2) (a_f (e_ix on0 (evB 5) (evB 8)) (a_f (e_ct call_tuple_of sem_tuple T.b_tuple (by decide +kernel) (evB 9)) a_nil))) a_nil)))))))))))
    (ss_one (s_retO 6))))))
theorem ok_law_bound (T : Txt K mg) : Fn P w K mg base CX0 1 "_law_bound" (spD ⟨P, w, K⟩ nm [false] d_law_bound) :=
  fn_d T.d_law_bound sc_law_bound rfl fun F0 H E cdv A outer s f hr => (ss_cons (s_set 1 (M := .o) (sc_law_bound).nd np0 (e_lst (n := 0) a_nil))
    (ss_cons (s_for (vs := [2]) PassesOwn.never rfl (i_seqS on0 (evS 0)) (g_name 2 (sc_law_bound).nd np0)
    (ss_one (s_for (vs := [3]) PassesOwn.never rfl (i_seqS on0 (s_of (e_ix on0 (b_of (e_ix on0 (evB 2) (b_of (ei)))) (b_of (ei))))) (g_name 3 (sc_law_bound).nd np0)
    (ss_one (s_if (PW.pt (w_and (t_cmp (op_inA hr.units) sem_inA (evB 3) (b_of (e_lst (n := 3) (a_f (estr) (a_f (estr) (a_f (estr) a_nil))))) rfl) (w_and1 (t_cmp (op_ninA hr.units) sem_ninA (evB 3) (evB 1) rfl))))
    (ss_one (s_app 1 (by exact ev 3)))
    (ss_nil))))))
    (ss_one (s_frz 1 (s_ret (ev 1))))))
theorem ok_law_rule (T : Txt K mg) : Fn P w K mg base CX0 5 "_law_rule" (spD ⟨P, w, K⟩ nm [false, false, false] d_law_rule) :=
  fn_d T.d_law_rule sc_law_rule rfl fun F0 H E cdv A outer s f hr => (ss_cons (s_set 3 (M := .f) (sc_law_rule).nd np0 (e_call (ok_law_mix T) hr (by decide) pass0 (a_b (evB 1) (a_b (b_of (ei)) (a_b (b_of (ei)) a_nil)))))
    (ss_cons (s_set 4 (M := .o) (sc_law_rule).nd np0 (e_callO (ok_law_body T) hr (by decide) pass0 (a_b (evB 0) (a_b (evB 1) (a_b (evB 3) (a_b (evB 2) a_nil))))))
    (ss_cons (s_set 5 (M := .f) (sc_law_rule).nd np0 (e_op op_addA sem_add (b_of (e_call (ok_law_bound T) hr (by decide) pass0 (a_b (evB 4) a_nil))) (b_of (e_lst (n := 2) (a_f (e_ix on0 (b_of (e_call (ok_law_words T) hr (by decide) pass0 (a_b (evB 0) a_nil))) (b_of (ei))) (a_f (e_ix on0 (b_of (e_call (ok_law_words T) hr (by decide) pass0 (a_b (evB 0) a_nil))) (b_of (e_neg (ei)))) a_nil))))))
    (ss_cons (s_if (PW.pt (w_and (t_not (t_val (evB 2) (hB := on0))) (w_and (t_cmp op_gt sem_gt (evB 3) (b_of (ei)) (nomark _)) (w_and (t_cmp (opR_or op_lt (op_ltD hr.units)) sem_lt (b_of (e_cb cr_len sem_len T.b_len (by decide +kernel) (evB 4))) (b_of (ei)) (nomark _)) (w_and1 (t_cmp (op_eqP hr.units) sem_eq (b_of (e_call (ok_law_mix T) hr (by decide) pass0 (a_b (evB 1) (a_b (b_of (ei)) (a_b (b_of (ei)) a_nil))))) (b_of (ei)) (nomark _)))))))
    (ss_cons (s_set 7 (M := .f) (sc_law_rule).nd np0 (e_call (ok_law_mix T) hr (by decide) pass0 (a_b (evB 1) (a_b (b_of (ei)) (a_b (evB 3) a_nil)))))
    (ss_cons (s_setLc 6 [("_law_j", 8)] true rfl (sc_law_rule).nd np0 (sw_true rfl rfl rfl (by decide +kernel)) (i_rng1 T.b_range (e_call (ok_law_size T) hr (by decide) pass0 (a_b (evB 0) (a_b (evB 7) a_nil)))) (blkOk_by (by kernel_rfl)) (fun _ _ _ _ _ => g_name 8 (sc_law_rule).nd np0) (fun _ _ _ _ _ => ts_nil) (fun _ _ _ _ _ => e_call (ok_law_some T) hr (by decide) pass0 (a_b (b_of (e_op op_addA sem_add (b_of (e_op op_addA sem_add (evB 1) (b_of (ei)))) (evB 8))) (a_b (evB 5) a_nil))) nv0)
    (ss_one (s_ins 4 (by exact e_call (ok_law_mix T) hr (by decide) pass0 (a_b (evB 1) (a_b (b_of (ei)) (a_b (b_of (e_op op_addA sem_add (b_of (e_cb cr_len sem_len T.b_len (by decide +kernel) (evB 4))) (b_of (ei)))) a_nil)))) (by exact e_tup (n := 2) (a_f (estr) (a_f (e_tup (n := 2) (a_f (e_ix on0 (b_of (e_call (ok_law_kinds T) hr (by decide) pass0 (a_b (evB 0) a_nil))) (evB 7)) (a_f (e_ct call_tuple_of sem_tuple T.b_tuple (by decide +kernel) (evB 6)) a_nil))) a_nil)))))))
    (ss_nil))
    (ss_cons (s_setLc 6 [("_law_j", 8)] true rfl (sc_law_rule).nd np0 (sw_true rfl rfl rfl (by decide +kernel)) (i_rng1 T.b_range (e_call (ok_law_size T) hr (by decide) pass0 (a_b (evB 0) (a_b (evB 3) a_nil)))) (blkOk_by (by kernel_rfl)) (fun _ _ _ _ _ => g_name 8 (sc_law_rule).nd np0) (fun _ _ _ _ _ => ts_nil) (fun _ _ _ _ _ => e_call (ok_law_some T) hr (by decide) pass0 (a_b (b_of (e_op op_addA sem_add (evB 1) (b_of (e_op op_mulA sem_rep (b_of (ei)) (evB 8))))) (a_b (evB 5) a_nil))) nv0)
    (ss_one (s_ret (e_tup (n := 2) (a_f (e_tup (n := 2) (a_f (e_ix on0 (b_of (e_call (ok_law_kinds T) hr (by decide) pass0 (a_b (evB 0) a_nil))) (evB 3)) (a_f (e_ct call_tuple_of sem_tuple T.b_tuple (by decide +kernel) (evB 6)) a_nil))) (a_f (e_ct call_tuple_of sem_tuple T.b_tuple (by decide +kernel) (evB 4)) a_nil))))))))))
theorem ok_law_rules (T : Txt K mg) : Fn P w K mg base CX0 6 "_law_rules" (spD ⟨P, w, K⟩ nm [false] d_law_rules) :=
  fn_d T.d_law_rules sc_law_rules rfl fun F0 H E cdv A outer s f hr => (ss_cons (s_set 1 (M := .f) (sc_law_rules).nd np0 (ei))
    (ss_cons (s_if (PW.pt (w_or (t_cmp op_gt sem_gt (b_of (e_cb cr_len sem_len T.b_len (by decide +kernel) (evB 0))) (b_of (ei)) (nomark _)) (w_or1 (t_cmp (op_eqP hr.units) sem_eq (b_of (e_call (ok_law_mix T) hr (by decide) pass0 (a_b (b_of (e_call (ok_law_cell T) hr (by decide) pass0 (a_b (evB 0) (a_b (b_of (ei)) a_nil)))) (a_b (b_of (ei)) (a_b (b_of (ei)) a_nil))))) (b_of (ei)) (nomark _)))))
    (ss_one (s_set 1 (M := .f) (sc_law_rules).nd np0 (ei)))
    (ss_nil))
    (ss_cons (s_set 2 (M := .f) (sc_law_rules).nd np0 (e_cmp (op_eqP hr.units) sem_eq (b_of (e_op op_mod sem_mod (b_of (e_call (ok_law_cell T) hr (by decide) pass0 (a_b (evB 0) (a_b (b_of (ei)) a_nil)))) (b_of (ei)))) (b_of (ei)) (nomark _)))
    (ss_one (s_ret (e_ct call_tuple_of sem_tuple T.b_tuple (by decide +kernel) (b_of (e_lc [("_law_cell_here", 3)] rfl (sc_law_rules).nd (i_seqB on0 (b_of (e_sl on0 (evB 0) (o_some (ei)) (o_some (e_op op_addA sem_add (b_of (ei)) (evB 1)))))) (blkOk_by (by kernel_rfl)) (fun _ _ _ _ _ => g_name 3 (sc_law_rules).nd np0) (fun _ _ _ _ _ => ts_nil) (fun _ _ _ _ _ => e_call (ok_law_rule T) hr (by decide) pass0 (a_b (evB 0) (a_b (evB 3) (a_b (evB 2) a_nil)))) nv0))))))))
theorem ok_atoms_of (T : Txt K mg) : Fn P w K mg base CX0 1 "atoms_of" (spD ⟨P, w, K⟩ nm [false] d_atoms_of) :=
  fn_d T.d_atoms_of sc_atoms_of rfl fun F0 H E cdv A outer s f hr => (ss_one (s_ret (e_op op_addA sem_add (b_of (e_lst (n := 1) (a_f (e_ix on0 (evB 0) (b_of (ei))) a_nil))) (b_of (e_lc [("literal", 1)] rfl (sc_atoms_of).nd (i_seqB on0 (b_of (e_ix on0 (evB 0) (b_of (ei))))) (blkOk_by (by kernel_rfl)) (fun _ _ _ _ _ => g_name 1 (sc_atoms_of).nd np0) (fun _ _ _ _ _ => ts_nil) (fun _ _ _ _ _ => e_ix on0 (evB 1) (b_of (ei))) nv0)))))
theorem ok_is_variable (T : Txt K mg) : Fn P w K mg base CX0 1 "is_variable" (spD ⟨P, w, K⟩ nm [false] d_is_variable) :=
  fn_d T.d_is_variable sc_is_variable rfl fun F0 H E cdv A outer s f hr => (ss_cons (s_if (PW.pt (w_or (t_not (t_val (b_of (e_isa cr_isaStr T.b_isinstance T.b_str (by decide +kernel) on0 (evB 0))) (hB := on0))) (w_or (t_not (t_chain op_le sem_le op_le sem_le (b_of (ei)) (b_of (e_cb cr_len sem_len T.b_len (by decide +kernel) (evB 0))) (b_of (ei)))) (w_or1 (t_cmp (op_ninA hr.units) sem_ninA (b_of (e_ix on0 (evB 0) (b_of (ei)))) (b_of (egc T.g_GREAT (fun _ => .str _))) rfl)))))
    (ss_one (s_ret (ebl)))
    (ss_nil))
    (ss_one (s_ret (v_or (e_cmp (op_eqP hr.units) sem_eq (b_of (e_cb cr_len sem_len T.b_len (by decide +kernel) (evB 0))) (b_of (ei)) (nomark _)) (v_one (e_cmp (op_inA hr.units) sem_inA (b_of (e_ix on0 (evB 0) (b_of (ei)))) (b_of (egc T.g_FIGURES (fun _ => .str _))) rfl))))))
theorem ok_variables_of (T : Txt K mg) : Fn P w K mg base CX0 2 "variables_of" (spD ⟨P, w, K⟩ nm [false] d_variables_of) :=
  fn_d T.d_variables_of sc_variables_of rfl fun F0 H E cdv A outer s f hr => (ss_cons (s_set 1 (M := .o) (sc_variables_of).nd np0 (e_lst (n := 0) a_nil))
    (ss_cons (s_for (vs := [2]) PassesOwn.never rfl (i_seqS on0 (s_of (e_call (ok_atoms_of T) hr (by decide) pass0 (a_b (evB 0) a_nil)))) (g_name 2 (sc_variables_of).nd np0)
    (ss_one (s_for (vs := [3]) PassesOwn.never rfl (i_seqS on0 (s_of (e_ix on0 (evB 2) (b_of (ei))))) (g_name 3 (sc_variables_of).nd np0)
    (ss_one (s_if (PW.pt (w_and (t_val (b_of (e_call (ok_is_variable T) hr (by decide) pass0 (a_b (evB 3) a_nil))) (hB := on0)) (w_and1 (t_cmp (op_ninA hr.units) sem_ninA (evB 3) (evB 1) rfl))))
    (ss_one (s_app 1 (by exact ev 3)))
    (ss_nil))))))
    (ss_one (s_frz 1 (s_ret (ev 1))))))
theorem ok_with_terms (T : Txt K mg) : Fn P w K mg base CX0 1 "with_terms" (spD ⟨P, w, K⟩ nm [false, false] d_with_terms) :=
  fn_d T.d_with_terms sc_with_terms rfl fun F0 H E cdv A outer s f hr => (ss_one (s_ret (e_tup (n := 2) (a_f (e_ix on0 (evB 0) (b_of (ei))) (a_f (e_ct call_tuple_of sem_tuple T.b_tuple (by decide +kernel) (b_of (e_lc [("one", 2)] rfl (sc_with_terms).nd (i_seqB on0 (b_of (e_ix on0 (evB 0) (b_of (ei))))) (blkOk_by (by kernel_rfl)) (fun _ _ _ _ _ => g_name 2 (sc_with_terms).nd np0) (fun _ _ _ _ _ => ts_nil) (fun _ _ _ _ _ => e_get2 hr.u1 (evB 1) (evB 2) (ev 2)) nv0))) a_nil)))))
theorem ok_rule_with (T : Txt K mg) : Fn P w K mg base CX0 2 "rule_with" (spD ⟨P, w, K⟩ nm [false, false] d_rule_with) :=
  fn_d T.d_rule_with sc_rule_with rfl fun F0 H E cdv A outer s f hr => (ss_one (s_ret (e_tup (n := 2) (a_f (e_call (ok_with_terms T) hr (by decide) pass0 (a_b (b_of (e_ix on0 (evB 0) (b_of (ei)))) (a_b (evB 1) a_nil))) (a_f (e_ct call_tuple_of sem_tuple T.b_tuple (by decide +kernel) (b_of (e_lc [("kind", 2), ("atom", 3)] rfl (sc_rule_with).nd (i_seqB on0 (b_of (e_ix on0 (evB 0) (b_of (ei))))) (blkOk_by (by kernel_rfl)) (fun _ _ _ _ _ => g_tup on0 rfl (gs_cons (g_name 2 (sc_rule_with).nd np0) (gs_cons (g_name 3 (sc_rule_with).nd np0) (gs_nil)))) (fun _ _ _ _ _ => ts_nil) (fun _ _ _ _ _ => e_tup (n := 2) (a_f (ev 2) (a_f (e_call (ok_with_terms T) hr (by decide) pass0 (a_b (evB 3) (a_b (evB 1) a_nil))) a_nil))) nv0))) a_nil)))))
theorem ok_plain_names (T : Txt K mg) : Fn P w K mg base CX0 1 "plain_names" (spD ⟨P, w, K⟩ nm [true] d_plain_names) :=
  fn_d T.d_plain_names sc_plain_names rfl fun F0 H E cdv A outer s f hr => (ss_cons (s_setLc 1 [("one", 3)] false rfl (sc_plain_names).nd np0 (sw_true rfl rfl rfl (by decide +kernel)) (i_seqB on0 (b_of (egc T.g_GREAT (fun _ => .str _)))) (blkOk_by (by kernel_rfl)) (fun _ _ _ _ _ => g_name 3 (sc_plain_names).nd np0) (fun _ _ _ _ _ => ts_nil) (fun _ _ _ _ _ => ev 3) nv0)
    (ss_cons (s_for (vs := [2]) PassesOwn.never rfl (i_seqS on0 (s_of (estr))) (g_name 2 (sc_plain_names).nd np0)
    (ss_one (s_ext 1 (by exact f_of (e_lc [("one", 3)] rfl (sc_plain_names).nd (i_seqB on0 (b_of (egc T.g_GREAT (fun _ => .str _)))) (blkOk_by (by kernel_rfl)) (fun _ _ _ _ _ => g_name 3 (sc_plain_names).nd np0) (fun _ _ _ _ _ => ts_nil) (fun _ _ _ _ _ => e_op op_addA sem_add (evB 3) (evB 2)) nv0)))))
    (ss_one (s_ret (e_sl on0 (evB 1) o_none (o_some (ev 0)))))))
theorem ok_plain (T : Txt K mg) : Fn P w K mg base CX0 3 "plain" (spD ⟨P, w, K⟩ nm [false] d_plain) :=
  fn_d T.d_plain sc_plain rfl fun F0 H E cdv A outer s f hr => (ss_cons (s_set 1 (M := .f) (sc_plain).nd np0 (e_call (ok_variables_of T) hr (by decide) pass0 (a_b (evB 0) a_nil)))
    (ss_one (s_ret (e_call (ok_rule_with T) hr (by decide) pass0 (a_b (evB 0) (a_b (b_of (e_dictZip on0 rfl T.b_dict T.b_zip (evB 1) (b_of (e_call (ok_plain_names T) hr (by decide) pass0 (a_f (e_cb cr_len sem_len T.b_len (by decide +kernel) (evB 1)) a_nil))))) a_nil))))))
theorem ok_law_kinds_of (T : Txt K mg) : Fn P w K mg base CX0 1 "_law_kinds_of" (spD ⟨P, w, K⟩ nm [false] d_law_kinds_of) :=
  fn_d T.d_law_kinds_of sc_law_kinds_of rfl fun F0 H E cdv A outer s f hr => (ss_one (s_ret (e_op op_addA sem_add (b_of (e_lst (n := 1) (a_f (e_tup (n := 2) (a_f (e_ix on0 (b_of (e_ix on0 (evB 0) (b_of (ei)))) (b_of (ei))) (a_f (e_cb cr_len sem_len T.b_len (by decide +kernel) (b_of (e_ix on0 (b_of (e_ix on0 (evB 0) (b_of (ei)))) (b_of (ei))))) a_nil))) a_nil))) (b_of (e_lc [("_law_one", 1)] rfl (sc_law_kinds_of).nd (i_seqB on0 (b_of (e_ix on0 (evB 0) (b_of (ei))))) (blkOk_by (by kernel_rfl)) (fun _ _ _ _ _ => g_name 1 (sc_law_kinds_of).nd np0) (fun _ _ _ _ _ => ts_nil) (fun _ _ _ _ _ => e_tup (n := 3) (a_f (e_ix on0 (evB 1) (b_of (ei))) (a_f (e_ix on0 (b_of (e_ix on0 (evB 1) (b_of (ei)))) (b_of (ei))) (a_f (e_cb cr_len sem_len T.b_len (by decide +kernel) (b_of (e_ix on0 (b_of (e_ix on0 (evB 1) (b_of (ei)))) (b_of (ei))))) a_nil)))) nv0)))))
theorem ok_is_word (T : Txt K mg) : Fn P w K mg base CX0 1 "is_word" (spD ⟨P, w, K⟩ nm [false] d_is_word) :=
  fn_d T.d_is_word sc_is_word rfl fun F0 H E cdv A outer s f hr => (ss_cons (s_if (PW.pt (w_or (t_not (t_val (b_of (e_isa cr_isaStr T.b_isinstance T.b_str (by decide +kernel) on0 (evB 0))) (hB := on0))) (w_or (t_not (t_chain op_le sem_le op_le sem_le (b_of (ei)) (b_of (e_cb cr_len sem_len T.b_len (by decide +kernel) (evB 0))) (b_of (ei)))) (w_or1 (t_cmp (op_inA hr.units) sem_inA (evB 0) (b_of (egk T.g_KEPT on0)) rfl)))))
    (ss_one (s_ret (ebl)))
    (ss_nil))
    (ss_cons (s_for (vs := [1]) PassesOwn.never rfl (i_seqS on0 (evS 0)) (g_name 1 (sc_is_word).nd np0)
    (ss_one (s_if (t_cmp (op_ninA hr.units) sem_ninA (evB 1) (b_of (egc T.g_SMALL (fun _ => .str _))) rfl)
    (ss_one (s_ret (ebl)))
    (ss_nil))))
    (ss_one (s_ret (ebl)))))
theorem ok_is_atom (T : Txt K mg) : Fn P w K mg base CX0 2 "is_atom" (spD ⟨P, w, K⟩ nm [false] d_is_atom) :=
  fn_d T.d_is_atom sc_is_atom rfl fun F0 H E cdv A outer s f hr => (ss_cons (s_if (PW.pt (w_or (t_not (t_val (b_of (e_isa cr_isaTup T.b_isinstance T.b_tuple (by decide +kernel) on0 (evB 0))) (hB := on0))) (w_or (t_cmp (op_neP hr.units) sem_ne (b_of (e_cb cr_len sem_len T.b_len (by decide +kernel) (evB 0))) (b_of (ei)) (nomark _)) (w_or1 (t_not (t_val (b_of (e_call (ok_is_word T) hr (by decide) pass0 (a_b (b_of (e_ix on0 (evB 0) (b_of (ei)))) a_nil))) (hB := on0)))))))
    (ss_one (s_ret (ebl)))
    (ss_nil))
    (ss_cons (s_if (PW.pt (w_or (t_not (t_val (b_of (e_isa cr_isaTup T.b_isinstance T.b_tuple (by decide +kernel) on0 (b_of (e_ix on0 (evB 0) (b_of (ei)))))) (hB := on0))) (w_or1 (t_cmp op_gt sem_gt (b_of (e_cb cr_len sem_len T.b_len (by decide +kernel) (b_of (e_ix on0 (evB 0) (b_of (ei)))))) (b_of (ei)) (nomark _)))))
    (ss_one (s_ret (ebl)))
    (ss_nil))
    (ss_cons (s_for (vs := [1]) PassesOwn.never rfl (i_seqS on0 (s_of (e_ix on0 (evB 0) (b_of (ei))))) (g_name 1 (sc_is_atom).nd np0)
    (ss_one (s_if (PW.pt (w_and (t_not (t_val (b_of (e_call (ok_is_word T) hr (by decide) pass0 (a_b (evB 1) a_nil))) (hB := on0))) (w_and1 (t_not (t_val (b_of (e_call (ok_is_variable T) hr (by decide) pass0 (a_b (evB 1) a_nil))) (hB := on0))))))
    (ss_one (s_ret (ebl)))
    (ss_nil))))
    (ss_one (s_ret (ebl))))))
theorem ok_is_literal (T : Txt K mg) : Fn P w K mg base CX0 3 "is_literal" (spD ⟨P, w, K⟩ nm [false] d_is_literal) :=
  fn_d T.d_is_literal sc_is_literal rfl fun F0 H E cdv A outer s f hr => (ss_cons (s_if (PW.pt (w_or (t_not (t_val (b_of (e_isa cr_isaTup T.b_isinstance T.b_tuple (by decide +kernel) on0 (evB 0))) (hB := on0))) (w_or (t_cmp (op_neP hr.units) sem_ne (b_of (e_cb cr_len sem_len T.b_len (by decide +kernel) (evB 0))) (b_of (ei)) (nomark _)) (w_or1 (t_not (t_val (b_of (e_isa cr_isaStr T.b_isinstance T.b_str (by decide +kernel) on0 (b_of (e_ix on0 (evB 0) (b_of (ei)))))) (hB := on0)))))))
    (ss_one (s_ret (ebl)))
    (ss_nil))
    (ss_one (s_ret (v_and (v_or (e_cmp (op_eqP hr.units) sem_eq (b_of (e_ix on0 (evB 0) (b_of (ei)))) (b_of (estr)) (nomark _)) (v_one (e_cmp (op_eqP hr.units) sem_eq (b_of (e_ix on0 (evB 0) (b_of (ei)))) (b_of (estr)) (nomark _)))) (v_one (e_call (ok_is_atom T) hr (by decide) pass0 (a_b (b_of (e_ix on0 (evB 0) (b_of (ei)))) a_nil)))))))
theorem ok_is_rule (T : Txt K mg) : Fn P w K mg base CX0 4 "is_rule" (spD ⟨P, w, K⟩ nm [false] d_is_rule) :=
  fn_d T.d_is_rule sc_is_rule rfl fun F0 H E cdv A outer s f hr => (ss_cons (s_if (PW.pt (w_or (t_not (t_val (b_of (e_isa cr_isaTup T.b_isinstance T.b_tuple (by decide +kernel) on0 (evB 0))) (hB := on0))) (w_or (t_cmp (op_neP hr.units) sem_ne (b_of (e_cb cr_len sem_len T.b_len (by decide +kernel) (evB 0))) (b_of (ei)) (nomark _)) (w_or1 (t_not (t_val (b_of (e_call (ok_is_atom T) hr (by decide) pass0 (a_b (b_of (e_ix on0 (evB 0) (b_of (ei)))) a_nil))) (hB := on0)))))))
    (ss_one (s_ret (ebl)))
    (ss_nil))
    (ss_cons (s_if (PW.pt (w_or (t_not (t_val (b_of (e_isa cr_isaTup T.b_isinstance T.b_tuple (by decide +kernel) on0 (b_of (e_ix on0 (evB 0) (b_of (ei)))))) (hB := on0))) (w_or1 (t_cmp op_gt sem_gt (b_of (e_cb cr_len sem_len T.b_len (by decide +kernel) (b_of (e_ix on0 (evB 0) (b_of (ei)))))) (b_of (ei)) (nomark _)))))
    (ss_one (s_ret (ebl)))
    (ss_nil))
    (ss_cons (s_set 1 (M := .f) (sc_is_rule).nd np0 (f_of (e_lst (n := 0) a_nil)))
    (ss_cons (s_for (vs := [2]) PassesOwn.never rfl (i_seqS on0 (s_of (e_ix on0 (evB 0) (b_of (ei))))) (g_name 2 (sc_is_rule).nd np0)
    (ss_cons (s_if (t_not (t_val (b_of (e_call (ok_is_literal T) hr (by decide) pass0 (a_b (evB 2) a_nil))) (hB := on0)))
    (ss_one (s_ret (ebl)))
    (ss_nil))
    (ss_one (s_if (t_cmp (op_eqP hr.units) sem_eq (b_of (e_ix on0 (evB 2) (b_of (ei)))) (b_of (estr)) (nomark _))
    (ss_one (s_set 1 (M := .f) (sc_is_rule).nd np0 (e_op op_addA sem_add (evB 1) (b_of (e_ct call_list_of sem_list T.b_list (by decide +kernel) (b_of (e_ix on0 (b_of (e_ix on0 (evB 2) (b_of (ei)))) (b_of (ei)))))))))
    (ss_nil)))))
    (ss_one (s_ret (e_cb (cr_all rfl) sem_all T.b_all (by decide +kernel) (b_of (e_lc [("one", 2)] rfl (sc_is_rule).nd (i_seqB on0 (b_of (e_call (ok_variables_of T) hr (by decide) pass0 (a_b (evB 0) a_nil)))) (blkOk_by (by kernel_rfl)) (fun _ _ _ _ _ => g_name 2 (sc_is_rule).nd np0) (fun _ _ _ _ _ => ts_nil) (fun _ _ _ _ _ => e_cmp (op_inA hr.units) sem_inA (evB 2) (evB 1) rfl) nv0)))))))))
theorem ok_law_terms (T : Txt K mg) : Fn P w K mg base CX0 1 "_law_terms" (spD ⟨P, w, K⟩ nm [false] d_law_terms) :=
  fn_d T.d_law_terms sc_law_terms rfl fun F0 H E cdv A outer s f hr => (ss_cons (s_set 1 (M := .f) (sc_law_terms).nd np0 (f_of (e_ct call_list_of sem_list T.b_list (by decide +kernel) (b_of (e_ix on0 (b_of (e_ix on0 (evB 0) (b_of (ei)))) (b_of (ei)))))))
    (ss_cons (s_for (vs := [2]) PassesOwn.never rfl (i_seqS on0 (s_of (e_ix on0 (evB 0) (b_of (ei))))) (g_name 2 (sc_law_terms).nd np0)
    (ss_one (s_set 1 (M := .f) (sc_law_terms).nd np0 (e_op op_addA sem_add (evB 1) (b_of (e_ct call_list_of sem_list T.b_list (by decide +kernel) (b_of (e_ix on0 (b_of (e_ix on0 (evB 2) (b_of (ei)))) (b_of (ei))))))))))
    (ss_one (s_ret (ev 1)))))
theorem ok_law_renamed (T : Txt K mg) : Fn P w K mg base CX0 1 "_law_renamed" (spD ⟨P, w, K⟩ nm [false, false] d_law_renamed) :=
  fn_d T.d_law_renamed sc_law_renamed rfl fun F0 H E cdv A outer s f hr => (ss_cons (s_set 2 (M := .f) (sc_law_renamed).nd np0 (e_ct call_tuple_of sem_tuple T.b_tuple (by decide +kernel) (b_of (e_lc [("_law_one", 3)] rfl (sc_law_renamed).nd (i_seqB on0 (b_of (e_ix on0 (evB 0) (b_of (ei))))) (blkOk_by (by kernel_rfl)) (fun _ _ _ _ _ => g_name 3 (sc_law_renamed).nd np0) (fun _ _ _ _ _ => ts_nil) (fun _ _ _ _ _ => e_tup (n := 2) (a_f (e_ix on0 (evB 3) (b_of (ei))) (a_f (e_tup (n := 2) (a_f (e_ix on0 (b_of (e_ix on0 (evB 3) (b_of (ei)))) (b_of (ei))) (a_f (e_ct call_tuple_of sem_tuple T.b_tuple (by decide +kernel) (b_of (e_lc [("_law_term", 4)] rfl (sc_law_renamed).nd (i_seqB on0 (b_of (e_ix on0 (b_of (e_ix on0 (evB 3) (b_of (ei)))) (b_of (ei))))) (blkOk_by (by kernel_rfl)) (fun _ _ _ _ _ => g_name 4 (sc_law_renamed).nd np0) (fun _ _ _ _ _ => ts_nil) (fun _ _ _ _ _ => e_get2 hr.u1 (evB 1) (evB 4) (ev 4)) nv0))) a_nil))) a_nil))) nv0))))
    (ss_one (s_ret (e_tup (n := 2) (a_f (e_tup (n := 2) (a_f (e_ix on0 (b_of (e_ix on0 (evB 0) (b_of (ei)))) (b_of (ei))) (a_f (e_ct call_tuple_of sem_tuple T.b_tuple (by decide +kernel) (b_of (e_lc [("_law_term", 4)] rfl (sc_law_renamed).nd (i_seqB on0 (b_of (e_ix on0 (b_of (e_ix on0 (evB 0) (b_of (ei)))) (b_of (ei))))) (blkOk_by (by kernel_rfl)) (fun _ _ _ _ _ => g_name 4 (sc_law_renamed).nd np0) (fun _ _ _ _ _ => ts_nil) (fun _ _ _ _ _ => e_get2 hr.u1 (evB 1) (evB 4) (ev 4)) nv0))) a_nil))) (a_f (ev 2) a_nil))))))
theorem okL_law (T : Txt K mg) {f : Addr} {fd : FuncData} (FF : Fun K "law" "law" s_law f fd) : FnOk P w K mg base CX0 7 f fd ["_law_script"] (spD ⟨P, w, K⟩ nm [false] d_law) :=
  fn_at FF sc_law rfl fun F0 H E cdv A outer s f hr => (ss_cons (s_for (vs := [1]) PassesOwn.never rfl (i_seqS on0 (s_of (e_call (ok_law_rules T) hr (by decide) pass0 (a_b (evB 0) a_nil)))) (g_name 1 (sc_law).nd np0)
    (ss_cons (s_set 2 (M := .f) (sc_law).nd np0 (e_call (ok_plain T) hr (by decide) pass0 (a_b (evB 1) a_nil)))
    (ss_cons (s_if (PW.pt (w_or (t_cmp op_isNotA sem_isNot (b_of (e_call (ok_is_rule T) hr (by decide) pass0 (a_b (evB 2) a_nil))) (b_of (ebl)) (nomark _)) (w_or1 (t_cmp (op_neP hr.units) sem_ne (b_of (e_call (ok_law_kinds_of T) hr (by decide) pass0 (a_b (evB 2) a_nil))) (b_of (e_call (ok_law_kinds_of T) hr (by decide) pass0 (a_b (evB 1) a_nil))) (nomark _)))))
    (ss_one (s_ret (ebl)))
    (ss_nil))
    (ss_cons (s_set 3 (M := .o) (sc_law).nd np0 (e_dnew))
    (ss_cons (s_for (vs := [4, 5]) PassesOwn.never rfl (i_zip on0 T.b_zip (e_call (ok_law_terms T) hr (by decide) pass0 (a_b (evB 1) a_nil)) (e_call (ok_law_terms T) hr (by decide) pass0 (a_b (evB 2) a_nil))) (g_tup on0 rfl (gs_cons (g_name 4 (sc_law).nd np0) (gs_cons (g_name 5 (sc_law).nd np0) (gs_nil))))
    (ss_cons (s_set 8 (M := .f) (sc_law).nd np0 (ev 4))
    (ss_cons (s_if (t_cmp (op_inA hr.units) sem_inA (evB 4) (b_of (e_lst (n := 3) (a_f (estr) (a_f (estr) (a_f (estr) a_nil))))) rfl)
    (ss_cons (s_dput 3 hr.u1 (by exact evB 4) (by exact e_get2 hr.u1 (evB 3) (evB 4) (e_ix on0 (b_of (e_lst (n := 4) (a_f (estr) (a_f (estr) (a_f (estr) (a_f (estr) a_nil)))))) (b_of (e_cb call_lenR sem_lenD T.b_len (by decide +kernel) (evB 3))))))
    (ss_one (s_set 8 (M := .f) (sc_law).nd np0 (e_dget on0 hr.u1 (evB 3) (evB 4)))))
    (ss_nil))
    (ss_one (s_if (t_cmp (op_neP hr.units) sem_ne (evB 5) (evB 8) (nomark _))
    (ss_one (s_ret (ebl)))
    (ss_nil))))))
    (ss_cons (s_set 6 (M := .f) (sc_law).nd np0 (estr))
    (ss_cons (s_setLc 7 [("_law_k", 9)] true rfl (sc_law).nd np0 (sw_true rfl rfl rfl (by decide +kernel)) (i_rng1 T.b_range (ei)) (blkOk_by (by kernel_rfl)) (fun _ _ _ _ _ => g_name 9 (sc_law).nd np0) (fun _ _ _ _ _ => ts_nil) (fun _ _ _ _ _ => e_op op_addA sem_add (b_of (e_ix on0 (evB 6) (b_of (e_call (ok_law_mix T) hr (by decide) pass0 (a_b (b_of (e_op op_addA sem_add (b_of (e_call (ok_law_cell T) hr (by decide) pass0 (a_b (evB 0) (a_b (b_of (ei)) a_nil)))) (evB 9))) (a_b (b_of (ei)) (a_b (b_of (ei)) a_nil))))))) (b_of (e_ct call_str_int sem_str T.b_str (by decide +kernel) (evB 9)))) nv0)
    (ss_cons (s_if (PW.pt (w_or (t_cmp (op_neP hr.units) sem_ne (b_of (e_call (ok_plain T) hr (by decide) pass0 (a_b (evB 2) a_nil))) (evB 2) (nomark _)) (w_or1 (t_cmp (op_neP hr.units) sem_ne (b_of (e_call (ok_plain T) hr (by decide) pass0 (a_b (b_of (e_call (ok_law_renamed T) hr (by decide) pass0 (a_b (evB 1) (a_b (b_of (e_dictZip on0 rfl T.b_dict T.b_zip (b_of (e_lst (n := 3) (a_f (estr) (a_f (estr) (a_f (estr) a_nil))))) (evB 7))) a_nil)))) a_nil))) (evB 2) (nomark _)))))
    (ss_one (s_ret (ebl)))
    (ss_nil))
    (ss_one (s_if (t_cmp (op_neP hr.units) sem_ne (b_of (e_call (ok_plain T) hr (by decide) pass0 (a_b (b_of (e_call (ok_law_renamed T) hr (by decide) pass0 (a_b (evB 1) (a_b (b_of (e_disp (d_cons (b_of (estr)) (estr) (d_cons (b_of (estr)) (estr) (d_nil))))) a_nil)))) a_nil))) (b_of (e_call (ok_plain T) hr (by decide) pass0 (a_b (b_of (e_call (ok_law_renamed T) hr (by decide) pass0 (a_b (evB 2) (a_b (b_of (e_disp (d_cons (b_of (estr)) (estr) (d_cons (b_of (estr)) (estr) (d_nil))))) a_nil)))) a_nil))) (nomark _))
    (ss_one (s_ret (ebl)))
    (ss_nil)))))))))))
    (ss_one (s_ret (ebl))))
end


theorem all_mk {P : Program} {w : World} {K : PySem.W.Frag} {h : Heap} {mg : Str → Option Value} {fa : Addr} (X : K.In h) (G : h.Ns mainGlobals mg) (hfa : mg "law" = some (.ref fa))
    {f_law_mix : Addr} {od_law_mix an_law_mix : Option Addr} {sl_law_mix : Array (Option Value)} {oc_law_mix kV_law_mix dc_law_mix pm_law_mix cd_law_mix ct_law_mix : Value}
    {f_law_cell : Addr} {od_law_cell an_law_cell : Option Addr} {sl_law_cell : Array (Option Value)} {oc_law_cell kV_law_cell dc_law_cell pm_law_cell cd_law_cell ct_law_cell : Value}
    {f_law_word : Addr} {od_law_word an_law_word : Option Addr} {sl_law_word : Array (Option Value)} {oc_law_word kV_law_word dc_law_word pm_law_word cd_law_word ct_law_word : Value}
    {f_law_words : Addr} {od_law_words an_law_words : Option Addr} {sl_law_words : Array (Option Value)} {oc_law_words kV_law_words dc_law_words pm_law_words cd_law_words ct_law_words : Value}
    {f_law_kinds : Addr} {od_law_kinds an_law_kinds : Option Addr} {sl_law_kinds : Array (Option Value)} {oc_law_kinds kV_law_kinds dc_law_kinds pm_law_kinds cd_law_kinds ct_law_kinds : Value}
    {f_law_size : Addr} {od_law_size an_law_size : Option Addr} {sl_law_size : Array (Option Value)} {oc_law_size kV_law_size dc_law_size pm_law_size cd_law_size ct_law_size : Value}
    {f_law_some : Addr} {od_law_some an_law_some : Option Addr} {sl_law_some : Array (Option Value)} {oc_law_some kV_law_some dc_law_some pm_law_some cd_law_some ct_law_some : Value}
    {f_law_body : Addr} {od_law_body an_law_body : Option Addr} {sl_law_body : Array (Option Value)} {oc_law_body kV_law_body dc_law_body pm_law_body cd_law_body ct_law_body : Value}
    {f_law_bound : Addr} {od_law_bound an_law_bound : Option Addr} {sl_law_bound : Array (Option Value)} {oc_law_bound kV_law_bound dc_law_bound pm_law_bound cd_law_bound ct_law_bound : Value}
    {f_law_rule : Addr} {od_law_rule an_law_rule : Option Addr} {sl_law_rule : Array (Option Value)} {oc_law_rule kV_law_rule dc_law_rule pm_law_rule cd_law_rule ct_law_rule : Value}
    {f_law_rules : Addr} {od_law_rules an_law_rules : Option Addr} {sl_law_rules : Array (Option Value)} {oc_law_rules kV_law_rules dc_law_rules pm_law_rules cd_law_rules ct_law_rules : Value}
    {f_atoms_of : Addr} {od_atoms_of an_atoms_of : Option Addr} {sl_atoms_of : Array (Option Value)} {oc_atoms_of kV_atoms_of dc_atoms_of pm_atoms_of cd_atoms_of ct_atoms_of : Value}
    {f_is_variable : Addr} {od_is_variable an_is_variable : Option Addr} {sl_is_variable : Array (Option Value)} {oc_is_variable kV_is_variable dc_is_variable pm_is_variable cd_is_variable ct_is_variable : Value}
    {f_variables_of : Addr} {od_variables_of an_variables_of : Option Addr} {sl_variables_of : Array (Option Value)} {oc_variables_of kV_variables_of dc_variables_of pm_variables_of cd_variables_of ct_variables_of : Value}
    {f_with_terms : Addr} {od_with_terms an_with_terms : Option Addr} {sl_with_terms : Array (Option Value)} {oc_with_terms kV_with_terms dc_with_terms pm_with_terms cd_with_terms ct_with_terms : Value}
    {f_rule_with : Addr} {od_rule_with an_rule_with : Option Addr} {sl_rule_with : Array (Option Value)} {oc_rule_with kV_rule_with dc_rule_with pm_rule_with cd_rule_with ct_rule_with : Value}
    {f_plain_names : Addr} {od_plain_names an_plain_names : Option Addr} {sl_plain_names : Array (Option Value)} {oc_plain_names kV_plain_names dc_plain_names pm_plain_names cd_plain_names ct_plain_names : Value}
    {f_plain : Addr} {od_plain an_plain : Option Addr} {sl_plain : Array (Option Value)} {oc_plain kV_plain dc_plain pm_plain cd_plain ct_plain : Value}
    {f_law_kinds_of : Addr} {od_law_kinds_of an_law_kinds_of : Option Addr} {sl_law_kinds_of : Array (Option Value)} {oc_law_kinds_of kV_law_kinds_of dc_law_kinds_of pm_law_kinds_of cd_law_kinds_of ct_law_kinds_of : Value}
    {f_is_word : Addr} {od_is_word an_is_word : Option Addr} {sl_is_word : Array (Option Value)} {oc_is_word kV_is_word dc_is_word pm_is_word cd_is_word ct_is_word : Value}
    {f_is_atom : Addr} {od_is_atom an_is_atom : Option Addr} {sl_is_atom : Array (Option Value)} {oc_is_atom kV_is_atom dc_is_atom pm_is_atom cd_is_atom ct_is_atom : Value}
    {f_is_literal : Addr} {od_is_literal an_is_literal : Option Addr} {sl_is_literal : Array (Option Value)} {oc_is_literal kV_is_literal dc_is_literal pm_is_literal cd_is_literal ct_is_literal : Value}
    {f_is_rule : Addr} {od_is_rule an_is_rule : Option Addr} {sl_is_rule : Array (Option Value)} {oc_is_rule kV_is_rule dc_is_rule pm_is_rule cd_is_rule ct_is_rule : Value}
    {f_law_terms : Addr} {od_law_terms an_law_terms : Option Addr} {sl_law_terms : Array (Option Value)} {oc_law_terms kV_law_terms dc_law_terms pm_law_terms cd_law_terms ct_law_terms : Value}
    {f_law_renamed : Addr} {od_law_renamed an_law_renamed : Option Addr} {sl_law_renamed : Array (Option Value)} {oc_law_renamed kV_law_renamed dc_law_renamed pm_law_renamed cd_law_renamed ct_law_renamed : Value}
    {f_law : Addr} {od_law an_law : Option Addr} {sl_law : Array (Option Value)} {oc_law kV_law dc_law pm_law cd_law ct_law : Value}
    {q_KEPT : Addr} {qd_KEPT : Option Addr} {qn_KEPT : Nat} {qs_KEPT : Array (Option Value)} {t_KEPT0 t_KEPT1 t_KEPT2 t_KEPT3 t_KEPT4 : Tok}
    {t_SMALL : Tok}
    {t_GREAT : Tok}
    {t_FIGURES : Tok}
    (a_law_mix : PySem.W.nsIn K mainGlobals "_law_mix" = some (some (.ref f_law_mix)))
    (l_law_mix : K.lookup f_law_mix = some ⟨oc_law_mix, od_law_mix, .func (PySem.W.fnOf "_law_mix" "_law_mix" (defArgs s_law_mix) (defBody s_law_mix) (defScope s_law_mix) .none kV_law_mix dc_law_mix pm_law_mix an_law_mix cd_law_mix ct_law_mix), sl_law_mix⟩)
    (c_law_mix : PySem.W.codeIn K cd_law_mix "_law_mix" = true)
    (k_law_mix : PySem.W.keepIn K (.ref f_law_mix) = true)
    (a_law_cell : PySem.W.nsIn K mainGlobals "_law_cell" = some (some (.ref f_law_cell)))
    (l_law_cell : K.lookup f_law_cell = some ⟨oc_law_cell, od_law_cell, .func (PySem.W.fnOf "_law_cell" "_law_cell" (defArgs s_law_cell) (defBody s_law_cell) (defScope s_law_cell) .none kV_law_cell dc_law_cell pm_law_cell an_law_cell cd_law_cell ct_law_cell), sl_law_cell⟩)
    (c_law_cell : PySem.W.codeIn K cd_law_cell "_law_cell" = true)
    (k_law_cell : PySem.W.keepIn K (.ref f_law_cell) = true)
    (a_law_word : PySem.W.nsIn K mainGlobals "_law_word" = some (some (.ref f_law_word)))
    (l_law_word : K.lookup f_law_word = some ⟨oc_law_word, od_law_word, .func (PySem.W.fnOf "_law_word" "_law_word" (defArgs s_law_word) (defBody s_law_word) (defScope s_law_word) .none kV_law_word dc_law_word pm_law_word an_law_word cd_law_word ct_law_word), sl_law_word⟩)
    (c_law_word : PySem.W.codeIn K cd_law_word "_law_word" = true)
    (k_law_word : PySem.W.keepIn K (.ref f_law_word) = true)
    (a_law_words : PySem.W.nsIn K mainGlobals "_law_words" = some (some (.ref f_law_words)))
    (l_law_words : K.lookup f_law_words = some ⟨oc_law_words, od_law_words, .func (PySem.W.fnOf "_law_words" "_law_words" (defArgs s_law_words) (defBody s_law_words) (defScope s_law_words) .none kV_law_words dc_law_words pm_law_words an_law_words cd_law_words ct_law_words), sl_law_words⟩)
    (c_law_words : PySem.W.codeIn K cd_law_words "_law_words" = true)
    (k_law_words : PySem.W.keepIn K (.ref f_law_words) = true)
    (a_law_kinds : PySem.W.nsIn K mainGlobals "_law_kinds" = some (some (.ref f_law_kinds)))
    (l_law_kinds : K.lookup f_law_kinds = some ⟨oc_law_kinds, od_law_kinds, .func (PySem.W.fnOf "_law_kinds" "_law_kinds" (defArgs s_law_kinds) (defBody s_law_kinds) (defScope s_law_kinds) .none kV_law_kinds dc_law_kinds pm_law_kinds an_law_kinds cd_law_kinds ct_law_kinds), sl_law_kinds⟩)
    (c_law_kinds : PySem.W.codeIn K cd_law_kinds "_law_kinds" = true)
    (k_law_kinds : PySem.W.keepIn K (.ref f_law_kinds) = true)
    (a_law_size : PySem.W.nsIn K mainGlobals "_law_size" = some (some (.ref f_law_size)))
    (l_law_size : K.lookup f_law_size = some ⟨oc_law_size, od_law_size, .func (PySem.W.fnOf "_law_size" "_law_size" (defArgs s_law_size) (defBody s_law_size) (defScope s_law_size) .none kV_law_size dc_law_size pm_law_size an_law_size cd_law_size ct_law_size), sl_law_size⟩)
    (c_law_size : PySem.W.codeIn K cd_law_size "_law_size" = true)
    (k_law_size : PySem.W.keepIn K (.ref f_law_size) = true)
    (a_law_some : PySem.W.nsIn K mainGlobals "_law_some" = some (some (.ref f_law_some)))
    (l_law_some : K.lookup f_law_some = some ⟨oc_law_some, od_law_some, .func (PySem.W.fnOf "_law_some" "_law_some" (defArgs s_law_some) (defBody s_law_some) (defScope s_law_some) .none kV_law_some dc_law_some pm_law_some an_law_some cd_law_some ct_law_some), sl_law_some⟩)
    (c_law_some : PySem.W.codeIn K cd_law_some "_law_some" = true)
    (k_law_some : PySem.W.keepIn K (.ref f_law_some) = true)
    (a_law_body : PySem.W.nsIn K mainGlobals "_law_body" = some (some (.ref f_law_body)))
    (l_law_body : K.lookup f_law_body = some ⟨oc_law_body, od_law_body, .func (PySem.W.fnOf "_law_body" "_law_body" (defArgs s_law_body) (defBody s_law_body) (defScope s_law_body) .none kV_law_body dc_law_body pm_law_body an_law_body cd_law_body ct_law_body), sl_law_body⟩)
    (c_law_body : PySem.W.codeIn K cd_law_body "_law_body" = true)
    (k_law_body : PySem.W.keepIn K (.ref f_law_body) = true)
    (a_law_bound : PySem.W.nsIn K mainGlobals "_law_bound" = some (some (.ref f_law_bound)))
    (l_law_bound : K.lookup f_law_bound = some ⟨oc_law_bound, od_law_bound, .func (PySem.W.fnOf "_law_bound" "_law_bound" (defArgs s_law_bound) (defBody s_law_bound) (defScope s_law_bound) .none kV_law_bound dc_law_bound pm_law_bound an_law_bound cd_law_bound ct_law_bound), sl_law_bound⟩)
    (c_law_bound : PySem.W.codeIn K cd_law_bound "_law_bound" = true)
    (k_law_bound : PySem.W.keepIn K (.ref f_law_bound) = true)
    (a_law_rule : PySem.W.nsIn K mainGlobals "_law_rule" = some (some (.ref f_law_rule)))
    (l_law_rule : K.lookup f_law_rule = some ⟨oc_law_rule, od_law_rule, .func (PySem.W.fnOf "_law_rule" "_law_rule" (defArgs s_law_rule) (defBody s_law_rule) (defScope s_law_rule) .none kV_law_rule dc_law_rule pm_law_rule an_law_rule cd_law_rule ct_law_rule), sl_law_rule⟩)
    (c_law_rule : PySem.W.codeIn K cd_law_rule "_law_rule" = true)
    (k_law_rule : PySem.W.keepIn K (.ref f_law_rule) = true)
    (a_law_rules : PySem.W.nsIn K mainGlobals "_law_rules" = some (some (.ref f_law_rules)))
    (l_law_rules : K.lookup f_law_rules = some ⟨oc_law_rules, od_law_rules, .func (PySem.W.fnOf "_law_rules" "_law_rules" (defArgs s_law_rules) (defBody s_law_rules) (defScope s_law_rules) .none kV_law_rules dc_law_rules pm_law_rules an_law_rules cd_law_rules ct_law_rules), sl_law_rules⟩)
    (c_law_rules : PySem.W.codeIn K cd_law_rules "_law_rules" = true)
    (k_law_rules : PySem.W.keepIn K (.ref f_law_rules) = true)
    (a_atoms_of : PySem.W.nsIn K mainGlobals "atoms_of" = some (some (.ref f_atoms_of)))
    (l_atoms_of : K.lookup f_atoms_of = some ⟨oc_atoms_of, od_atoms_of, .func (PySem.W.fnOf "atoms_of" "atoms_of" (defArgs s_atoms_of) (defBody s_atoms_of) (defScope s_atoms_of) .none kV_atoms_of dc_atoms_of pm_atoms_of an_atoms_of cd_atoms_of ct_atoms_of), sl_atoms_of⟩)
    (c_atoms_of : PySem.W.codeIn K cd_atoms_of "atoms_of" = true)
    (k_atoms_of : PySem.W.keepIn K (.ref f_atoms_of) = true)
    (a_is_variable : PySem.W.nsIn K mainGlobals "is_variable" = some (some (.ref f_is_variable)))
    (l_is_variable : K.lookup f_is_variable = some ⟨oc_is_variable, od_is_variable, .func (PySem.W.fnOf "is_variable" "is_variable" (defArgs s_is_variable) (defBody s_is_variable) (defScope s_is_variable) .none kV_is_variable dc_is_variable pm_is_variable an_is_variable cd_is_variable ct_is_variable), sl_is_variable⟩)
    (c_is_variable : PySem.W.codeIn K cd_is_variable "is_variable" = true)
    (k_is_variable : PySem.W.keepIn K (.ref f_is_variable) = true)
    (a_variables_of : PySem.W.nsIn K mainGlobals "variables_of" = some (some (.ref f_variables_of)))
    (l_variables_of : K.lookup f_variables_of = some ⟨oc_variables_of, od_variables_of, .func (PySem.W.fnOf "variables_of" "variables_of" (defArgs s_variables_of) (defBody s_variables_of) (defScope s_variables_of) .none kV_variables_of dc_variables_of pm_variables_of an_variables_of cd_variables_of ct_variables_of), sl_variables_of⟩)
    (c_variables_of : PySem.W.codeIn K cd_variables_of "variables_of" = true)
    (k_variables_of : PySem.W.keepIn K (.ref f_variables_of) = true)
    (a_with_terms : PySem.W.nsIn K mainGlobals "with_terms" = some (some (.ref f_with_terms)))
    (l_with_terms : K.lookup f_with_terms = some ⟨oc_with_terms, od_with_terms, .func (PySem.W.fnOf "with_terms" "with_terms" (defArgs s_with_terms) (defBody s_with_terms) (defScope s_with_terms) .none kV_with_terms dc_with_terms pm_with_terms an_with_terms cd_with_terms ct_with_terms), sl_with_terms⟩)
    (c_with_terms : PySem.W.codeIn K cd_with_terms "with_terms" = true)
    (k_with_terms : PySem.W.keepIn K (.ref f_with_terms) = true)
    (a_rule_with : PySem.W.nsIn K mainGlobals "rule_with" = some (some (.ref f_rule_with)))
    (l_rule_with : K.lookup f_rule_with = some ⟨oc_rule_with, od_rule_with, .func (PySem.W.fnOf "rule_with" "rule_with" (defArgs s_rule_with) (defBody s_rule_with) (defScope s_rule_with) .none kV_rule_with dc_rule_with pm_rule_with an_rule_with cd_rule_with ct_rule_with), sl_rule_with⟩)
    (c_rule_with : PySem.W.codeIn K cd_rule_with "rule_with" = true)
    (k_rule_with : PySem.W.keepIn K (.ref f_rule_with) = true)
    (a_plain_names : PySem.W.nsIn K mainGlobals "plain_names" = some (some (.ref f_plain_names)))
    (l_plain_names : K.lookup f_plain_names = some ⟨oc_plain_names, od_plain_names, .func (PySem.W.fnOf "plain_names" "plain_names" (defArgs s_plain_names) (defBody s_plain_names) (defScope s_plain_names) .none kV_plain_names dc_plain_names pm_plain_names an_plain_names cd_plain_names ct_plain_names), sl_plain_names⟩)
    (c_plain_names : PySem.W.codeIn K cd_plain_names "plain_names" = true)
    (k_plain_names : PySem.W.keepIn K (.ref f_plain_names) = true)
    (a_plain : PySem.W.nsIn K mainGlobals "plain" = some (some (.ref f_plain)))
    (l_plain : K.lookup f_plain = some ⟨oc_plain, od_plain, .func (PySem.W.fnOf "plain" "plain" (defArgs s_plain) (defBody s_plain) (defScope s_plain) .none kV_plain dc_plain pm_plain an_plain cd_plain ct_plain), sl_plain⟩)
    (c_plain : PySem.W.codeIn K cd_plain "plain" = true)
    (k_plain : PySem.W.keepIn K (.ref f_plain) = true)
    (a_law_kinds_of : PySem.W.nsIn K mainGlobals "_law_kinds_of" = some (some (.ref f_law_kinds_of)))
    (l_law_kinds_of : K.lookup f_law_kinds_of = some ⟨oc_law_kinds_of, od_law_kinds_of, .func (PySem.W.fnOf "_law_kinds_of" "_law_kinds_of" (defArgs s_law_kinds_of) (defBody s_law_kinds_of) (defScope s_law_kinds_of) .none kV_law_kinds_of dc_law_kinds_of pm_law_kinds_of an_law_kinds_of cd_law_kinds_of ct_law_kinds_of), sl_law_kinds_of⟩)
    (c_law_kinds_of : PySem.W.codeIn K cd_law_kinds_of "_law_kinds_of" = true)
    (k_law_kinds_of : PySem.W.keepIn K (.ref f_law_kinds_of) = true)
    (a_is_word : PySem.W.nsIn K mainGlobals "is_word" = some (some (.ref f_is_word)))
    (l_is_word : K.lookup f_is_word = some ⟨oc_is_word, od_is_word, .func (PySem.W.fnOf "is_word" "is_word" (defArgs s_is_word) (defBody s_is_word) (defScope s_is_word) .none kV_is_word dc_is_word pm_is_word an_is_word cd_is_word ct_is_word), sl_is_word⟩)
    (c_is_word : PySem.W.codeIn K cd_is_word "is_word" = true)
    (k_is_word : PySem.W.keepIn K (.ref f_is_word) = true)
    (a_is_atom : PySem.W.nsIn K mainGlobals "is_atom" = some (some (.ref f_is_atom)))
    (l_is_atom : K.lookup f_is_atom = some ⟨oc_is_atom, od_is_atom, .func (PySem.W.fnOf "is_atom" "is_atom" (defArgs s_is_atom) (defBody s_is_atom) (defScope s_is_atom) .none kV_is_atom dc_is_atom pm_is_atom an_is_atom cd_is_atom ct_is_atom), sl_is_atom⟩)
    (c_is_atom : PySem.W.codeIn K cd_is_atom "is_atom" = true)
    (k_is_atom : PySem.W.keepIn K (.ref f_is_atom) = true)
    (a_is_literal : PySem.W.nsIn K mainGlobals "is_literal" = some (some (.ref f_is_literal)))
    (l_is_literal : K.lookup f_is_literal = some ⟨oc_is_literal, od_is_literal, .func (PySem.W.fnOf "is_literal" "is_literal" (defArgs s_is_literal) (defBody s_is_literal) (defScope s_is_literal) .none kV_is_literal dc_is_literal pm_is_literal an_is_literal cd_is_literal ct_is_literal), sl_is_literal⟩)
    (c_is_literal : PySem.W.codeIn K cd_is_literal "is_literal" = true)
    (k_is_literal : PySem.W.keepIn K (.ref f_is_literal) = true)
    (a_is_rule : PySem.W.nsIn K mainGlobals "is_rule" = some (some (.ref f_is_rule)))
    (l_is_rule : K.lookup f_is_rule = some ⟨oc_is_rule, od_is_rule, .func (PySem.W.fnOf "is_rule" "is_rule" (defArgs s_is_rule) (defBody s_is_rule) (defScope s_is_rule) .none kV_is_rule dc_is_rule pm_is_rule an_is_rule cd_is_rule ct_is_rule), sl_is_rule⟩)
    (c_is_rule : PySem.W.codeIn K cd_is_rule "is_rule" = true)
    (k_is_rule : PySem.W.keepIn K (.ref f_is_rule) = true)
    (a_law_terms : PySem.W.nsIn K mainGlobals "_law_terms" = some (some (.ref f_law_terms)))
    (l_law_terms : K.lookup f_law_terms = some ⟨oc_law_terms, od_law_terms, .func (PySem.W.fnOf "_law_terms" "_law_terms" (defArgs s_law_terms) (defBody s_law_terms) (defScope s_law_terms) .none kV_law_terms dc_law_terms pm_law_terms an_law_terms cd_law_terms ct_law_terms), sl_law_terms⟩)
    (c_law_terms : PySem.W.codeIn K cd_law_terms "_law_terms" = true)
    (k_law_terms : PySem.W.keepIn K (.ref f_law_terms) = true)
    (a_law_renamed : PySem.W.nsIn K mainGlobals "_law_renamed" = some (some (.ref f_law_renamed)))
    (l_law_renamed : K.lookup f_law_renamed = some ⟨oc_law_renamed, od_law_renamed, .func (PySem.W.fnOf "_law_renamed" "_law_renamed" (defArgs s_law_renamed) (defBody s_law_renamed) (defScope s_law_renamed) .none kV_law_renamed dc_law_renamed pm_law_renamed an_law_renamed cd_law_renamed ct_law_renamed), sl_law_renamed⟩)
    (c_law_renamed : PySem.W.codeIn K cd_law_renamed "_law_renamed" = true)
    (k_law_renamed : PySem.W.keepIn K (.ref f_law_renamed) = true)
    (a_law : PySem.W.nsIn K mainGlobals "law" = some (some (.ref f_law)))
    (l_law : K.lookup f_law = some ⟨oc_law, od_law, .func (PySem.W.fnOf "law" "law" (defArgs s_law) (defBody s_law) (defScope s_law) .none kV_law dc_law pm_law an_law cd_law ct_law), sl_law⟩)
    (c_law : PySem.W.codeIn K cd_law "law" = true)
    (k_law : PySem.W.keepIn K (.ref f_law) = true)
    (z_all : PySem.W.nsIn K mainGlobals "all" = some none)
    (z_dict : PySem.W.nsIn K mainGlobals "dict" = some none)
    (z_int : PySem.W.nsIn K mainGlobals "int" = some none)
    (z_isinstance : PySem.W.nsIn K mainGlobals "isinstance" = some none)
    (z_len : PySem.W.nsIn K mainGlobals "len" = some none)
    (z_list : PySem.W.nsIn K mainGlobals "list" = some none)
    (z_range : PySem.W.nsIn K mainGlobals "range" = some none)
    (z_str : PySem.W.nsIn K mainGlobals "str" = some none)
    (z_tuple : PySem.W.nsIn K mainGlobals "tuple" = some none)
    (z_zip : PySem.W.nsIn K mainGlobals "zip" = some none)
    (g_KEPT : PySem.W.nsIn K mainGlobals "KEPT" = some (some (.ref q_KEPT)))
    (e_KEPT : K.lookup q_KEPT = some ⟨.type "tuple", qd_KEPT, .seq [.str "rule" t_KEPT0, .str "fact" t_KEPT1, .str "if" t_KEPT2, .str "and" t_KEPT3, .str "not" t_KEPT4].toArray qn_KEPT, qs_KEPT⟩)
    (g_SMALL : PySem.W.nsIn K mainGlobals "SMALL" = some (some (.str "abcdefghijklmnopqrstuvwxyz" t_SMALL)))
    (g_GREAT : PySem.W.nsIn K mainGlobals "GREAT" = some (some (.str "ABCDEFGHIJKLMNOPQRSTUVWXYZ" t_GREAT)))
    (g_FIGURES : PySem.W.nsIn K mainGlobals "FIGURES" = some (some (.str "0123456789" t_FIGURES)))
    : ∃ fd : FuncData, (∀ (s : Shared) (u : Value), BindsTo s fd ⟨[u], []⟩ [("_law_script", u)]) ∧ ∀ base : Heap, K.In base → base.Ns mainGlobals mg → FnOk P w K mg base CX0 7 fa fd ["_law_script"] (spL K) := by
  have e := hfa.symm.trans (PySem.W.mg_of X G a_law)
  cases e
  have T : Txt K mg := {
      d_law_mix := (df_mk X G a_law_mix l_law_mix c_law_mix k_law_mix fun _ _ _ _ _ _ us hl => match us, hl with | [_, _, _], _ => rfl),
      d_law_cell := (df_mk X G a_law_cell l_law_cell c_law_cell k_law_cell fun _ _ _ _ _ _ us hl => match us, hl with | [_, _], _ => rfl),
      d_law_word := (df_mk X G a_law_word l_law_word c_law_word k_law_word fun _ _ _ _ _ _ us hl => match us, hl with | [_, _, _], _ => rfl),
      d_law_words := (df_mk X G a_law_words l_law_words c_law_words k_law_words fun _ _ _ _ _ _ us hl => match us, hl with | [_], _ => rfl),
      d_law_kinds := (df_mk X G a_law_kinds l_law_kinds c_law_kinds k_law_kinds fun _ _ _ _ _ _ us hl => match us, hl with | [_], _ => rfl),
      d_law_size := (df_mk X G a_law_size l_law_size c_law_size k_law_size fun _ _ _ _ _ _ us hl => match us, hl with | [_, _], _ => rfl),
      d_law_some := (df_mk X G a_law_some l_law_some c_law_some k_law_some fun _ _ _ _ _ _ us hl => match us, hl with | [_, _], _ => rfl),
      d_law_body := (df_mk X G a_law_body l_law_body c_law_body k_law_body fun _ _ _ _ _ _ us hl => match us, hl with | [_, _, _, _], _ => rfl),
      d_law_bound := (df_mk X G a_law_bound l_law_bound c_law_bound k_law_bound fun _ _ _ _ _ _ us hl => match us, hl with | [_], _ => rfl),
      d_law_rule := (df_mk X G a_law_rule l_law_rule c_law_rule k_law_rule fun _ _ _ _ _ _ us hl => match us, hl with | [_, _, _], _ => rfl),
      d_law_rules := (df_mk X G a_law_rules l_law_rules c_law_rules k_law_rules fun _ _ _ _ _ _ us hl => match us, hl with | [_], _ => rfl),
      d_atoms_of := (df_mk X G a_atoms_of l_atoms_of c_atoms_of k_atoms_of fun _ _ _ _ _ _ us hl => match us, hl with | [_], _ => rfl),
      d_is_variable := (df_mk X G a_is_variable l_is_variable c_is_variable k_is_variable fun _ _ _ _ _ _ us hl => match us, hl with | [_], _ => rfl),
      d_variables_of := (df_mk X G a_variables_of l_variables_of c_variables_of k_variables_of fun _ _ _ _ _ _ us hl => match us, hl with | [_], _ => rfl),
      d_with_terms := (df_mk X G a_with_terms l_with_terms c_with_terms k_with_terms fun _ _ _ _ _ _ us hl => match us, hl with | [_, _], _ => rfl),
      d_rule_with := (df_mk X G a_rule_with l_rule_with c_rule_with k_rule_with fun _ _ _ _ _ _ us hl => match us, hl with | [_, _], _ => rfl),
      d_plain_names := (df_mk X G a_plain_names l_plain_names c_plain_names k_plain_names fun _ _ _ _ _ _ us hl => match us, hl with | [_], _ => rfl),
      d_plain := (df_mk X G a_plain l_plain c_plain k_plain fun _ _ _ _ _ _ us hl => match us, hl with | [_], _ => rfl),
      d_law_kinds_of := (df_mk X G a_law_kinds_of l_law_kinds_of c_law_kinds_of k_law_kinds_of fun _ _ _ _ _ _ us hl => match us, hl with | [_], _ => rfl),
      d_is_word := (df_mk X G a_is_word l_is_word c_is_word k_is_word fun _ _ _ _ _ _ us hl => match us, hl with | [_], _ => rfl),
      d_is_atom := (df_mk X G a_is_atom l_is_atom c_is_atom k_is_atom fun _ _ _ _ _ _ us hl => match us, hl with | [_], _ => rfl),
      d_is_literal := (df_mk X G a_is_literal l_is_literal c_is_literal k_is_literal fun _ _ _ _ _ _ us hl => match us, hl with | [_], _ => rfl),
      d_is_rule := (df_mk X G a_is_rule l_is_rule c_is_rule k_is_rule fun _ _ _ _ _ _ us hl => match us, hl with | [_], _ => rfl),
      d_law_terms := (df_mk X G a_law_terms l_law_terms c_law_terms k_law_terms fun _ _ _ _ _ _ us hl => match us, hl with | [_], _ => rfl),
      d_law_renamed := (df_mk X G a_law_renamed l_law_renamed c_law_renamed k_law_renamed fun _ _ _ _ _ _ us hl => match us, hl with | [_, _], _ => rfl),
      d_law := (df_mk X G a_law l_law c_law k_law fun _ _ _ _ _ _ us hl => match us, hl with | [_], _ => rfl),
      b_all := (PySem.W.mg_none_of X G z_all),
      b_dict := (PySem.W.mg_none_of X G z_dict),
      b_int := (PySem.W.mg_none_of X G z_int),
      b_isinstance := (PySem.W.mg_none_of X G z_isinstance),
      b_len := (PySem.W.mg_none_of X G z_len),
      b_list := (PySem.W.mg_none_of X G z_list),
      b_range := (PySem.W.mg_none_of X G z_range),
      b_str := (PySem.W.mg_none_of X G z_str),
      b_tuple := (PySem.W.mg_none_of X G z_tuple),
      b_zip := (PySem.W.mg_none_of X G z_zip),
      g_KEPT := (gt_mk (ys := ["rule", "fact", "if", "and", "not"]) X G g_KEPT e_KEPT (.cons ⟨_, rfl⟩ (.cons ⟨_, rfl⟩ (.cons ⟨_, rfl⟩ (.cons ⟨_, rfl⟩ (.cons ⟨_, rfl⟩ (.nil)))))) (by decide)),
      g_SMALL := (gs_mk X G g_SMALL),
      g_GREAT := (gs_mk X G g_GREAT),
      g_FIGURES := (gs_mk X G g_FIGURES) }
  refine ⟨PySem.W.fnOf "law" "law" (defArgs s_law) (defBody s_law) (defScope s_law) .none kV_law dc_law pm_law an_law cd_law ct_law, fun s u => .of_eq rfl, fun base _ _ => law_end (nm := fun _ => none) (okL_law T (fun_mk (st := s_law) l_law c_law k_law)) pure_law⟩
end Lw
open PySem PySem.W PyProof.Rows
set_option maxRecDepth 100000 in
set_option maxHeartbeats 0 in
theorem PySem.Challenge.cw_rulehall_k22_plain_rules_holds : PySem.Challenge.rw_rulehall_k22_plain_rules.Holds := by
  w_on; o_law; k_head; (case hw => w_witness2)
  k_fill
  refine L2.walk_ofK (l := PySem.Challenge.rw_rulehall_k22_plain_rules) (n := 63) (k := 7) (x := "_law_script") (CX := L2.CX0) (sp := Pv.spL) rfl (by decide) rfl ⟨rfl, by decide, by decide⟩ (fun w h Y => PySem.W.kIn_of Y) ?F (fun _ _ a ns hl _ hS => ⟨a, ns, rfl, hS, hl, fun _ => rfl⟩) (fun _ _ _ _ h => h)
  case F =>
    intro w mg fa h KX G hmg
    refine' Lw.all_mk KX G hmg ?a_law_mix ?l_law_mix ?c_law_mix ?k_law_mix ?a_law_cell ?l_law_cell ?c_law_cell ?k_law_cell ?a_law_word ?l_law_word ?c_law_word ?k_law_word ?a_law_words ?l_law_words ?c_law_words ?k_law_words ?a_law_kinds ?l_law_kinds ?c_law_kinds ?k_law_kinds ?a_law_size ?l_law_size ?c_law_size ?k_law_size ?a_law_some ?l_law_some ?c_law_some ?k_law_some ?a_law_body ?l_law_body ?c_law_body ?k_law_body ?a_law_bound ?l_law_bound ?c_law_bound ?k_law_bound ?a_law_rule ?l_law_rule ?c_law_rule ?k_law_rule ?a_law_rules ?l_law_rules ?c_law_rules ?k_law_rules ?a_atoms_of ?l_atoms_of ?c_atoms_of ?k_atoms_of ?a_is_variable ?l_is_variable ?c_is_variable ?k_is_variable ?a_variables_of ?l_variables_of ?c_variables_of ?k_variables_of ?a_with_terms ?l_with_terms ?c_with_terms ?k_with_terms ?a_rule_with ?l_rule_with ?c_rule_with ?k_rule_with ?a_plain_names ?l_plain_names ?c_plain_names ?k_plain_names ?a_plain ?l_plain ?c_plain ?k_plain ?a_law_kinds_of ?l_law_kinds_of ?c_law_kinds_of ?k_law_kinds_of ?a_is_word ?l_is_word ?c_is_word ?k_is_word ?a_is_atom ?l_is_atom ?c_is_atom ?k_is_atom ?a_is_literal ?l_is_literal ?c_is_literal ?k_is_literal ?a_is_rule ?l_is_rule ?c_is_rule ?k_is_rule ?a_law_terms ?l_law_terms ?c_law_terms ?k_law_terms ?a_law_renamed ?l_law_renamed ?c_law_renamed ?k_law_renamed ?a_law ?l_law ?c_law ?k_law ?z_all ?z_dict ?z_int ?z_isinstance ?z_len ?z_list ?z_range ?z_str ?z_tuple ?z_zip ?g_KEPT ?e_KEPT ?g_SMALL ?g_GREAT ?g_FIGURES
    (case a_law_mix => k_is)
    (case l_law_mix => k_is)
    (case c_law_mix => k_is)
    (case k_law_mix => k_is)
    (case a_law_cell => k_is)
    (case l_law_cell => k_is)
    (case c_law_cell => k_is)
    (case k_law_cell => k_is)
    (case a_law_word => k_is)
    (case l_law_word => k_is)
    (case c_law_word => k_is)
    (case k_law_word => k_is)
    (case a_law_words => k_is)
    (case l_law_words => k_is)
    (case c_law_words => k_is)
    (case k_law_words => k_is)
    (case a_law_kinds => k_is)
    (case l_law_kinds => k_is)
    (case c_law_kinds => k_is)
    (case k_law_kinds => k_is)
    (case a_law_size => k_is)
    (case l_law_size => k_is)
    (case c_law_size => k_is)
    (case k_law_size => k_is)
    (case a_law_some => k_is)
    (case l_law_some => k_is)
    (case c_law_some => k_is)
    (case k_law_some => k_is)
    (case a_law_body => k_is)
    (case l_law_body => k_is)
    (case c_law_body => k_is)
    (case k_law_body => k_is)
    (case a_law_bound => k_is)
    (case l_law_bound => k_is)
    (case c_law_bound => k_is)
    (case k_law_bound => k_is)
    (case a_law_rule => k_is)
    (case l_law_rule => k_is)
    (case c_law_rule => k_is)
    (case k_law_rule => k_is)
    (case a_law_rules => k_is)
    (case l_law_rules => k_is)
    (case c_law_rules => k_is)
    (case k_law_rules => k_is)
    (case a_atoms_of => k_is)
    (case l_atoms_of => k_is)
    (case c_atoms_of => k_is)
    (case k_atoms_of => k_is)
    (case a_is_variable => k_is)
    (case l_is_variable => k_is)
    (case c_is_variable => k_is)
    (case k_is_variable => k_is)
    (case a_variables_of => k_is)
    (case l_variables_of => k_is)
    (case c_variables_of => k_is)
    (case k_variables_of => k_is)
    (case a_with_terms => k_is)
    (case l_with_terms => k_is)
    (case c_with_terms => k_is)
    (case k_with_terms => k_is)
    (case a_rule_with => k_is)
    (case l_rule_with => k_is)
    (case c_rule_with => k_is)
    (case k_rule_with => k_is)
    (case a_plain_names => k_is)
    (case l_plain_names => k_is)
    (case c_plain_names => k_is)
    (case k_plain_names => k_is)
    (case a_plain => k_is)
    (case l_plain => k_is)
    (case c_plain => k_is)
    (case k_plain => k_is)
    (case a_law_kinds_of => k_is)
    (case l_law_kinds_of => k_is)
    (case c_law_kinds_of => k_is)
    (case k_law_kinds_of => k_is)
    (case a_is_word => k_is)
    (case l_is_word => k_is)
    (case c_is_word => k_is)
    (case k_is_word => k_is)
    (case a_is_atom => k_is)
    (case l_is_atom => k_is)
    (case c_is_atom => k_is)
    (case k_is_atom => k_is)
    (case a_is_literal => k_is)
    (case l_is_literal => k_is)
    (case c_is_literal => k_is)
    (case k_is_literal => k_is)
    (case a_is_rule => k_is)
    (case l_is_rule => k_is)
    (case c_is_rule => k_is)
    (case k_is_rule => k_is)
    (case a_law_terms => k_is)
    (case l_law_terms => k_is)
    (case c_law_terms => k_is)
    (case k_law_terms => k_is)
    (case a_law_renamed => k_is)
    (case l_law_renamed => k_is)
    (case c_law_renamed => k_is)
    (case k_law_renamed => k_is)
    (case a_law => k_is)
    (case l_law => k_is)
    (case c_law => k_is)
    (case k_law => k_is)
    (case z_all => k_is)
    (case z_dict => k_is)
    (case z_int => k_is)
    (case z_isinstance => k_is)
    (case z_len => k_is)
    (case z_list => k_is)
    (case z_range => k_is)
    (case z_str => k_is)
    (case z_tuple => k_is)
    (case z_zip => k_is)
    (case g_KEPT => k_is)
    (case e_KEPT => k_is)
    (case g_SMALL => k_is)
    (case g_GREAT => k_is)
    (case g_FIGURES => k_is)

